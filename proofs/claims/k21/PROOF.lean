import PyProof.Rows.All
import Wide.All
import OpenK.AllK
import Wide.FinOn
import HandS.ForMost
import HandS.ForExc
import HandS.More
import HandS.Star
import HandS.ClsMeth
import HandS.Property
import HandS.Defaults
import HandS.IsInst
import HandS.Wide
import HandS.WideBits
import HandS.Conv
import HandS.Lambda
import KE.KStateDown
import Lean
import HandS.WordsExc
import HandS.Head0
import HandS.Head1
import HandS.Head2
import HandS.HeadEnd
import HandS.HeadHook1
import HandS.HeadHook2
import KE.KExcInit
import KE.KNestM
import KE.KSuper
import HandS.OwnEq
import HandS.MakeKw
import HandS.MakeKwOnly
import HandS.RaiseMore
import HandS.TryOnly
import HandS.Style
import HandS.SortInts
import PyProof.LongRange
import KE.GoesMore
import HandS.ExcInit
import HandS.ExcField
import HandS.ExcIs
import HandS.TryMany
import KE.KExcIs
import HandS.Zip
import KE.OsSetLaws
import HandS.SetKeys
import PyProof.DictMoreH
import HandS.Small
import OpenK.KOps
import KE.KCallOwn
import HandS.FStr
import HandS.Text
import HandS.DictSubView
import HandS.DictTup
import KE.SortKeyHeap
import KE.KSortKey
import HandS.DictComp
import KE.KDictList
import KE.KEqDict
import HandS.Nested
import HandS.Dict
import KE.KEqNest
import PyProof.NeKinds
import OpenK.KOwn
import PyProof.Rows.StrOr
import PyProof.StrHeap
import PyProof.ReprNest
import PyProof.ReprRoads
import OpenK.KWalk
import PyProof.DictFindH
import KE.GoesEnum
import KE.KDictZip
import HandS.ListItems
import KE.KIndexWalk
import HandS.EndTab
import PyProof.ReprBulk
import PyProof.FitsInt
import PySem.Challenge.RW_threeswaps_k21_addresses_and_places
set_option Elab.async false
set_option linter.all false
set_option maxRecDepth 100000
set_option maxRecDepth 100000
set_option maxHeartbeats 4000000
namespace TS
open PySem L2
noncomputable section
noncomputable def gd (p : Prop) [Decidable p] : Bool := Classical.choose (⟨decide p, rfl⟩ : ∃ b, b = decide p)
theorem gd_eq (p : Prop) [Decidable p] : gd p = decide p := Classical.choose_spec (⟨decide p, rfl⟩ : ∃ b, b = decide p)
theorem gd_true {p : Prop} [Decidable p] (h : p) : gd p = true := by rw [gd_eq]; exact decide_eq_true h
theorem of_gd {p : Prop} [Decidable p] (h : gd p = true) : p := by rw [gd_eq] at h; exact of_decide_eq_true h
structure Lm where
  p : Hp → V → Prop
  mono : ∀ {F F' : Hp} {v : V}, Same F F' → p F v → p F' v
  rf : ∀ {F : Hp} {v : V}, p F v → ∃ a, v = .ref a
def L0 : Lm := ⟨fun _ _ => False, fun _ h => h, fun h => h.elim⟩
structure Gm where
  K : PySem.W.Frag
  G : Nat → Option Addr
  nm : Nat → List Str
  T : List (Addr × Str) := []
  lm : Lm := L0
def TbOb : HO → Bool
  | .tbl _ => false
  | .ext _ => false
  | _ => true
abbrev TbO (o : HO) : Prop := TbOb o = true
def NTb : HO → Bool
  | .tbl _ => false
  | .ext _ => false
  | .tup _ => false
  | _ => true
abbrev NT (o : HO) : Prop := NTb o = true
theorem NT.tt {o : HO} (n : NT o) : TbO o := by cases o <;> first | rfl | cases n
instance {o : HO} : Coe (NT o) (TbO o) := ⟨NT.tt⟩
structure Tb (M : Gm) (F H : Hp) : Prop where
  tab : LamX.Tabs M.T H
  fr : ∀ p ∈ M.T, F p.1 = none
  nt : ∀ b ps, F b ≠ some (.tbl ps)
theorem Tb.keep {M : Gm} {F H F' H' : Hp} (t : Tb M F H) (k : ∀ b o, H b = some o → ¬ TbO o → H' b = some o) (kf : ∀ b o, H b = some o → ¬ TbO o → F b = none → F' b = none) (kn : ∀ b ps, F' b ≠ some (.tbl ps)) : Tb M F' H' where
  tab := fun p hp => by
    obtain ⟨ps, h1, h2, h3⟩ := t.tab p hp
    exact ⟨ps, k _ _ h1 (by intro z; cases z), h2, fun pos cv hc => by
      obtain ⟨c, e1, e2⟩ := h3 pos cv hc
      exact ⟨c, e1, k _ _ e2 (by intro z; cases z)⟩⟩
  fr := fun p hp => by
    obtain ⟨ps, h1, _⟩ := t.tab p hp
    exact kf _ _ h1 (by intro z; cases z) (t.fr p hp)
  nt := kn
theorem Tb.alloc {M : Gm} {F H : Hp} (t : Tb M F H) {p : Addr} {o : HO} (hp : H p = none) : Tb M F (upd H p o) :=
  t.keep (fun b u e _ => by rw [upd_ne (ne_of_none e hp)]; exact e) (fun _ _ _ _ z => z) t.nt
theorem Tb.frz {M : Gm} {F H : Hp} (t : Tb M F H) {p : Addr} {o u : HO} (hp : H p = some o) (n : TbO o) (n2 : TbO u := by first | rfl | assumption | exact NT.tt (by assumption)) : Tb M (upd F p u) H :=
  t.keep (fun b u e _ => e) (fun b v e z q => by
    rw [upd_ne (fun y => by rw [y, hp] at e; cases e; exact z n)]; exact q) fun b ps e => by
    by_cases z : b = p
    · rw [z, upd_same] at e; cases e; cases n2
    · rw [upd_ne z] at e; exact t.nt b ps e
theorem Tb.write {M : Gm} {F H : Hp} (t : Tb M F H) {p : Addr} {o u : HO} (hp : H p = some o) (n : TbO o) : Tb M F (upd H p u) :=
  t.keep (fun b v e z => by rw [upd_ne (fun y => by rw [y, hp] at e; cases e; exact z n)]; exact e) (fun _ _ _ _ q => q) t.nt
def str0 (H : Hp) : Hp := fun b => match H b with
  | some o => if NTb o then some o else none
  | none => none
theorem str0_nt {H : Hp} {b : Addr} {o : HO} (h : str0 H b = some o) : H b = some o ∧ NT o := by
  unfold str0 at h
  split at h
  · rename_i u e
    split at h
    · rename_i n; cases h; exact ⟨e, n⟩
    · cases h
  · cases h
theorem str0_of {H : Hp} {b : Addr} {o : HO} (h : H b = some o) (n : NT o) : str0 H b = some o := by
  unfold str0
  rw [h]
  simp [show NTb o = true from n]
theorem str0_none {H : Hp} {b : Addr} (h : str0 H b = none) : ∀ o, H b = some o → ¬ NT o := fun o e n => by
  rw [str0_of e n] at h; cases h
inductive D where
  | non | bl (b : Bool) | int (i : Int) | str (x : Str)
  | lst (xs : List D) | tup (xs : List D) | scr (xs : List D)
  | dK (ks : List Key) (vs : List D) | dT (ks : List (List Key)) (vs : List D)
  | obj (c : Nat) (vs : List D)
  | cls (c : Nat)
  | lam
  | ktp (ns : List Int)
inductive OB where
  | l (xs : List D) | dK (ks : List Key) (vs : List D) | dT (ks : List (List Key)) (vs : List D) | o (c : Nat) (vs : List D)
def OB.dic : OB → Bool
  | .dK _ _ => true
  | .dT _ _ => true
  | _ => false
def D.dic : D → Bool
  | .dK _ _ => true
  | .dT _ _ => true
  | _ => false
def OB.toD : OB → D
  | .l xs => .lst xs
  | .dK ks vs => .dK ks vs
  | .dT ks vs => .dT ks vs
  | .o c vs => .obj c vs
inductive R where
  | imm (d : D) | own (o : OB) | brw (o : OB) | nst (tp : Bool) (ps : List (D ⊕ OB))
def R.mu : R → Bool
  | .imm _ => false
  | .own _ => true
  | .brw _ => true
  | .nst _ _ => false
abbrev Sl := List (Option R)
structure XD where
  c : Nat
  vs : List D
inductive Res (α : Type) where
  | ok (a : α) (δ : Sl) | exc (x : XD) (δ : Sl) | bad
inductive SR where
  | nx (δ : Sl) | rt (r : R) (δ : Sl) | bk (δ : Sl) | ct (δ : Sl) | exc (x : XD) (δ : Sl) | bad
inductive FR where
  | ok (r : R) (io : Option OB) | exc (x : XD) (io : Option OB) | bad
abbrev Fm := Option OB → List D → FR
abbrev FE := Sl → Res R
abbrev FD := Sl → Res D
abbrev FA := Sl → Res (List D)
abbrev FT := Sl → Res Bool
abbrev FS := Sl → SR
def Res.bind {α β : Type} (m : Res α) (k : α → Sl → Res β) : Res β := match m with
  | .ok a δ => k a δ
  | .exc x δ => .exc x δ
  | .bad => .bad
def Res.bindS {α : Type} (m : Res α) (k : α → Sl → SR) : SR := match m with
  | .ok a δ => k a δ
  | .exc x δ => .exc x δ
  | .bad => .bad
@[simp] theorem Res.bind_ok {α β : Type} (a : α) (δ : Sl) (k : α → Sl → Res β) : (Res.ok a δ).bind k = k a δ := rfl
@[simp] theorem Res.bindS_ok {α : Type} (a : α) (δ : Sl) (k : α → Sl → SR) : (Res.ok a δ).bindS k = k a δ := rfl
@[simp] theorem Res.bind_exc {α β : Type} (x : XD) (δ : Sl) (k : α → Sl → Res β) : (Res.exc x δ : Res α).bind k = .exc x δ := rfl
@[simp] theorem Res.bindS_exc {α : Type} (x : XD) (δ : Sl) (k : α → Sl → SR) : (Res.exc x δ : Res α).bindS k = .exc x δ := rfl
def KTup (K : PySem.W.Frag) (a : Addr) (ns : List Int) : Prop := ∃ (o : Obj) (its : Array Value) (n : Nat), K.lookup a = some o ∧ o.cls = .type "tuple" ∧ o.data = .seq its n ∧ its.size ≤ 100 ∧ Vals (ns.map V.int) its.toList ∧ o.dict = none
def FTup (F : Hp) (a : Addr) (ns : List Int) : Prop := ∃ o : Obj, F a = some (.frz o (.tup (ns.map V.int))) ∧ o.dict = none
def ITup (K : PySem.W.Frag) (F : Hp) (a : Addr) (ns : List Int) : Prop := KTup K a ns ∨ FTup F a ns
mutual
def rep (M : Gm) (F : Hp) : D → V → Prop
  | .non, v => v = .non
  | .bl b, v => v = .bl b
  | .int i, v => v = .int i
  | .str x, v => v = .str x
  | .lst ds, v => ∃ a vs, v = .ref a ∧ F a = some (.lst vs) ∧ reps M F ds vs
  | .scr ds, v => ∃ a vs, v = .ref a ∧ SqL M.K F a vs ∧ reps M F ds vs
  | .tup ds, v => ∃ a vs, v = .ref a ∧ F a = some (.tup vs) ∧ reps M F ds vs
  | .dK ks ds, v => ∃ (a : Addr) (od : Obj) (kvs : List (Key × V)), v = .ref a ∧ F a = some (.frz od (.dK kvs)) ∧ kvs.map (·.1) = ks ∧ reps M F ds (kvs.map (·.2))
  | .dT ks ds, v => ∃ (a : Addr) (od : Obj) (kvs : List (List Key × V)), v = .ref a ∧ F a = some (.frz od (.dT kvs)) ∧ kvs.map (·.1) = ks ∧ reps M F ds (kvs.map (·.2))
  | .obj c ds, v => ∃ (a C dx : Addr) (fs : List (Str × V)), v = .ref a ∧ M.G c = some C ∧ F a = some (.ins C dx fs) ∧ fs.map (·.1) = (M.nm c).take ds.length ∧ reps M F ds (fs.map (·.2))
  | .cls c, v => ∃ C, M.G c = some C ∧ v = .ref C
  | .lam, v => M.lm.p F v
  | .ktp ns, v => ∃ a, v = .ref a ∧ ITup M.K F a ns
def reps (M : Gm) (F : Hp) : List D → List V → Prop
  | [], vs => vs = []
  | d :: ds, vs => ∃ v r, vs = v :: r ∧ rep M F d v ∧ reps M F ds r
end
def obAt (M : Gm) (F H : Hp) : OB → Addr → Prop
  | .l ds, a => ∃ vs, H a = some (.lst vs) ∧ reps M F ds vs
  | .dK ks ds, a => ∃ (kvs : List (Key × V)), H a = some (.dK kvs) ∧ kvs.map (·.1) = ks ∧ reps M F ds (kvs.map (·.2))
  | .dT ks ds, a => ∃ (kvs : List (List Key × V)), H a = some (.dT kvs) ∧ kvs.map (·.1) = ks ∧ reps M F ds (kvs.map (·.2))
  | .o c ds, a => ∃ (C dx : Addr) (fs : List (Str × V)), M.G c = some C ∧ H a = some (.ins C dx fs) ∧ fs.map (·.1) = (M.nm c).take ds.length ∧ reps M F ds (fs.map (·.2))
theorem Same.seqT {K : PySem.W.Frag} {H H' : Hp} {a : Addr} {xs : List V} (e : Same H H') (h : SqT K H a xs) : SqT K H' a xs := by
  rcases h with (h | ⟨o, h⟩) | h
  · exact .inl (.inl (e _ _ h))
  · exact .inl (.inr ⟨o, e _ _ h⟩)
  · exact .inr h
section
variable {M : Gm} {F F' H H' : Hp}
mutual
theorem rep_mono (e : Same F F') : ∀ (d : D) (v : V), rep M F d v → rep M F' d v
  | .non, v, h => by unfold rep at h ⊢; exact h
  | .bl _, v, h => by unfold rep at h ⊢; exact h
  | .int _, v, h => by unfold rep at h ⊢; exact h
  | .str _, v, h => by unfold rep at h ⊢; exact h
  | .lst ds, v, h => by
    unfold rep at h ⊢
    obtain ⟨a, vs, h1, h2, h3⟩ := h
    exact ⟨a, vs, h1, e _ _ h2, reps_mono e ds vs h3⟩
  | .scr ds, v, h => by
    unfold rep at h ⊢
    obtain ⟨a, vs, h1, h2, h3⟩ := h
    exact ⟨a, vs, h1, e.seq h2, reps_mono e ds vs h3⟩
  | .tup ds, v, h => by
    unfold rep at h ⊢
    obtain ⟨a, vs, h1, h2, h3⟩ := h
    exact ⟨a, vs, h1, e _ _ h2, reps_mono e ds vs h3⟩
  | .dK ks ds, v, h => by
    unfold rep at h ⊢
    obtain ⟨a, od, vs, h1, h2, h3, h4⟩ := h
    exact ⟨a, od, vs, h1, e _ _ h2, h3, reps_mono e ds _ h4⟩
  | .dT ks ds, v, h => by
    unfold rep at h ⊢
    obtain ⟨a, od, vs, h1, h2, h3, h4⟩ := h
    exact ⟨a, od, vs, h1, e _ _ h2, h3, reps_mono e ds _ h4⟩
  | .obj c ds, v, h => by
    unfold rep at h ⊢
    obtain ⟨a, C, dx, fs, h1, h2, h3, h4, h5⟩ := h
    exact ⟨a, C, dx, fs, h1, h2, e _ _ h3, h4, reps_mono e ds _ h5⟩
  | .cls c, v, h => by unfold rep at h ⊢; exact h
  | .lam, v, h => by unfold rep at h ⊢; exact M.lm.mono e h
  | .ktp ns, v, h => by
    unfold rep at h ⊢
    obtain ⟨a, h1, h2⟩ := h
    exact ⟨a, h1, h2.imp id fun ⟨o, h3, h4⟩ => ⟨o, e _ _ h3, h4⟩⟩
theorem reps_mono (e : Same F F') : ∀ (ds : List D) (vs : List V), reps M F ds vs → reps M F' ds vs
  | [], vs, h => by unfold reps at h ⊢; exact h
  | d :: ds, vs, h => by
    unfold reps at h ⊢
    obtain ⟨v, r, h1, h2, h3⟩ := h
    exact ⟨v, r, h1, rep_mono e d v h2, reps_mono e ds r h3⟩
end
theorem reps_length : ∀ {ds : List D} {vs : List V}, reps M F ds vs → vs.length = ds.length
  | [], vs, h => by unfold reps at h; rw [h]; rfl
  | d :: ds, vs, h => by
    unfold reps at h
    obtain ⟨v, r, rfl, _, h3⟩ := h
    simp [reps_length h3]
theorem reps_get : ∀ {ds : List D} {vs : List V} {i : Nat} {d : D}, reps M F ds vs → ds[i]? = some d → ∃ v, vs[i]? = some v ∧ rep M F d v
  | [], vs, i, d, h, e => by simp at e
  | d :: ds, vs, 0, d', h, e => by
    unfold reps at h
    obtain ⟨v, r, rfl, h2, h3⟩ := h
    simp at e; subst e
    exact ⟨v, rfl, h2⟩
  | d :: ds, vs, i + 1, d', h, e => by
    unfold reps at h
    obtain ⟨v, r, rfl, h2, h3⟩ := h
    simp at e
    obtain ⟨w, e1, e2⟩ := reps_get h3 e
    exact ⟨w, by simpa using e1, e2⟩
theorem reps_nil : reps M F [] [] := by unfold reps; rfl
theorem reps_cons {d : D} {ds : List D} {v : V} {vs : List V} (h1 : rep M F d v) (h2 : reps M F ds vs) : reps M F (d :: ds) (v :: vs) := by
  unfold reps; exact ⟨v, vs, rfl, h1, h2⟩
theorem reps_cons_iff {d : D} {ds : List D} {v : V} {vs : List V} : reps M F (d :: ds) (v :: vs) ↔ rep M F d v ∧ reps M F ds vs := by
  constructor
  · intro h
    unfold reps at h
    obtain ⟨v', r, e, h2, h3⟩ := h
    cases e
    exact ⟨h2, h3⟩
  · exact fun h => reps_cons h.1 h.2
theorem reps_append : ∀ {ds es : List D} {vs ws : List V}, reps M F ds vs → reps M F es ws → reps M F (ds ++ es) (vs ++ ws)
  | [], es, vs, ws, h, h' => by unfold reps at h; subst h; exact h'
  | d :: ds, es, vs, ws, h, h' => by
    unfold reps at h
    obtain ⟨v, r, rfl, h2, h3⟩ := h
    exact reps_cons h2 (reps_append h3 h')
theorem reps_take : ∀ {ds : List D} {vs : List V} (n : Nat), reps M F ds vs → reps M F (ds.take n) (vs.take n)
  | _, _, 0, _ => by simp [reps]
  | [], vs, n + 1, h => by unfold reps at h; subst h; simp [reps]
  | d :: ds, vs, n + 1, h => by
    unfold reps at h
    obtain ⟨v, r, rfl, h2, h3⟩ := h
    exact reps_cons h2 (reps_take n h3)
theorem reps_drop : ∀ {ds : List D} {vs : List V} (n : Nat), reps M F ds vs → reps M F (ds.drop n) (vs.drop n)
  | _, _, 0, h => h
  | [], vs, n + 1, h => by unfold reps at h; subst h; simp [reps]
  | d :: ds, vs, n + 1, h => by
    unfold reps at h
    obtain ⟨v, r, rfl, h2, h3⟩ := h
    exact reps_drop n h3
theorem reps_set : ∀ {ds : List D} {vs : List V} {d : D} {v : V} (i : Nat), reps M F ds vs → rep M F d v → reps M F (ds.set i d) (vs.set i v)
  | [], vs, d, v, i, h, _ => by unfold reps at h; subst h; simp [reps]
  | d0 :: ds, vs, d, v, 0, h, hv => by
    unfold reps at h
    obtain ⟨v0, r, rfl, h2, h3⟩ := h
    exact reps_cons hv h3
  | d0 :: ds, vs, d, v, i + 1, h, hv => by
    unfold reps at h
    obtain ⟨v0, r, rfl, h2, h3⟩ := h
    exact reps_cons h2 (reps_set i h3 hv)
theorem obAt_mono (e : Same F F') {o : OB} {a : Addr} (ha : H' a = H a) (h : obAt M F H o a) : obAt M F' H' o a := by
  cases o with
  | l ds => obtain ⟨vs, h1, h2⟩ := h; exact ⟨vs, ha.trans h1, reps_mono e _ _ h2⟩
  | dK ks ds => obtain ⟨vs, h1, h2, h3⟩ := h; exact ⟨vs, ha.trans h1, h2, reps_mono e _ _ h3⟩
  | dT ks ds => obtain ⟨vs, h1, h2, h3⟩ := h; exact ⟨vs, ha.trans h1, h2, reps_mono e _ _ h3⟩
  | o c ds => obtain ⟨C, dx, fs, h1, h2, h3, h4⟩ := h; exact ⟨C, dx, fs, h1, ha.trans h2, h3, reps_mono e _ _ h4⟩
theorem obAt_some {o : OB} {a : Addr} (h : obAt M F H o a) : ∃ u, H a = some u := by
  cases o with
  | l ds => obtain ⟨vs, h1, h2⟩ := h; exact ⟨_, h1⟩
  | dK ks ds => obtain ⟨vs, h1, h2, h3⟩ := h; exact ⟨_, h1⟩
  | dT ks ds => obtain ⟨vs, h1, h2, h3⟩ := h; exact ⟨_, h1⟩
  | o c ds => obtain ⟨C, dx, fs, h1, h2, h3, h4⟩ := h; exact ⟨_, h2⟩
theorem obAt_nt {o : OB} {a : Addr} (h : obAt M F H o a) : ∃ u, H a = some u ∧ NT u := by
  cases o with
  | l ds => obtain ⟨vs, h1, h2⟩ := h; exact ⟨_, h1, rfl⟩
  | dK ks ds => obtain ⟨vs, h1, h2, h3⟩ := h; exact ⟨_, h1, rfl⟩
  | dT ks ds => obtain ⟨vs, h1, h2, h3⟩ := h; exact ⟨_, h1, rfl⟩
  | o c ds => obtain ⟨C, dx, fs, h1, h2, h3, h4⟩ := h; exact ⟨_, h2, rfl⟩
theorem obAt_rep {o : OB} {a : Addr} (hd : o.dic = false) (h : obAt M F F o a) : rep M F o.toD (.ref a) := by
  cases o with
  | l ds => obtain ⟨vs, h1, h2⟩ := h; unfold OB.toD rep; exact ⟨a, vs, rfl, h1, h2⟩
  | dK ks ds => cases hd
  | dT ks ds => cases hd
  | o c ds => obtain ⟨C, dx, fs, h1, h2, h3, h4⟩ := h; unfold OB.toD rep; exact ⟨a, C, dx, fs, rfl, h1, h2, h3, h4⟩
theorem obAt_repD {o : OB} {a : Addr} {u : HO} {od : Obj} (hd : o.dic = true) (hu : H a = some u) (hF : F' a = some (.frz od u)) (g : Same F F') (h : obAt M F H o a) : rep M F' o.toD (.ref a) := by
  cases o with
  | l ds => cases hd
  | dK ks ds =>
    obtain ⟨vs, h1, h2, h3⟩ := h
    rw [hu] at h1; cases h1
    unfold OB.toD rep; exact ⟨a, od, vs, rfl, hF, h2, reps_mono g _ _ h3⟩
  | dT ks ds =>
    obtain ⟨vs, h1, h2, h3⟩ := h
    rw [hu] at h1; cases h1
    unfold OB.toD rep; exact ⟨a, od, vs, rfl, hF, h2, reps_mono g _ _ h3⟩
  | o c ds => cases hd
theorem obAt_mut {o : OB} {a : Addr} (h : obAt M F H o a) : ∃ u, H a = some u ∧ NT u ∧ Mut (some u) := by
  cases o with
  | l ds => obtain ⟨vs, h1, h2⟩ := h; exact ⟨_, h1, rfl, True.intro⟩
  | dK ks ds => obtain ⟨vs, h1, h2, h3⟩ := h; exact ⟨_, h1, rfl, True.intro⟩
  | dT ks ds => obtain ⟨vs, h1, h2, h3⟩ := h; exact ⟨_, h1, rfl, True.intro⟩
  | o c ds => obtain ⟨C, dx, fs, h1, h2, h3, h4⟩ := h; exact ⟨_, h2, rfl, True.intro⟩
end
inductive LkS (Q : Hp → Prop) : Hp → Prop where
  | now {H : Hp} (h : Q H) : LkS Q H
  | lock {H : Hp} (d : Addr) (u : HO) (h : H d = some u) (mu : Mut (some u)) (k : ∀ od, LkS Q (upd H d (.frz od u))) : LkS Q H
theorem LkS.mono {Q R : Hp → Prop} {H : Hp} (l : LkS Q H) (h : ∀ H', Q H' → R H') : LkS R H := by
  induction l with
  | now q => exact .now (h _ q)
  | lock d u e mu _ ih => exact .lock d u e mu ih
theorem LkS.bind {Q R : Hp → Prop} {H : Hp} (l : LkS Q H) (h : ∀ H', Q H' → LkS R H') : LkS R H := by
  induction l with
  | now q => exact h _ q
  | lock d u e mu _ ih => exact .lock d u e mu ih
section
variable {X : Cx} {pins : List (Addr × Obj)} {σ : St} {s : Shared}
theorem LkS.inv {Q : Hp → Prop} {H : Hp} (l : LkS Q H) (I : Inv X pins σ H s) : ∃ H', Inv X pins σ H' s ∧ Q H' := by
  induction l with
  | now q => exact ⟨_, I, q⟩
  | lock d u e mu _ ih =>
    obtain ⟨od, I'⟩ := I.lock e mu
    exact ih od I'
def lkD (D : Ends) : Ends := ⟨fun σ H => LkS (D.nx σ) H, fun v H => LkS (D.rt v) H, fun σ H => LkS (D.bk σ) H, fun σ H => LkS (D.ct σ) H⟩
theorem pss_lks {ss : List Stmt} {t : L2.TS} (p : PSs X ss t) : PSs X ss (fun D σ H => t (lkD D) σ H) := by
  refine ⟨fun pins s σ H D I hw => thn (p.run pins s σ H _ I hw) fun f s1 q => ?_⟩
  cases f with
  | next => obtain ⟨σ', H', I2, q⟩ := q; obtain ⟨H3, I3, q3⟩ := LkS.inv q I2; exact ⟨σ', H3, I3, q3⟩
  | brk => obtain ⟨σ', H', I2, q⟩ := q; obtain ⟨H3, I3, q3⟩ := LkS.inv q I2; exact ⟨σ', H3, I3, q3⟩
  | cont => obtain ⟨σ', H', I2, q⟩ := q; obtain ⟨H3, I3, q3⟩ := LkS.inv q I2; exact ⟨σ', H3, I3, q3⟩
  | ret v => obtain ⟨x, σ', H', I2, r, q⟩ := q; obtain ⟨H3, I3, q3⟩ := LkS.inv q I2; exact ⟨x, σ', H3, I3, r, q3⟩
theorem pe_lks {e : Expr} {t : TE} (p : PE X e t) : PE X e (fun σ H Q => t σ H fun v H' => LkS (Q v) H') := by
  refine ⟨fun pins s σ H Q I h => thn (p.run pins s σ H _ I h) fun v s1 ⟨x, H1, I1, r, q⟩ => ?_⟩
  obtain ⟨H2, I2, q2⟩ := q.inv I1
  exact ⟨x, H2, I2, r, q2⟩
end
def nAt (M : Gm) (F H : Hp) : D ⊕ OB → V → Prop
  | .inl d, v => rep M F d v
  | .inr o, v => ∃ b, v = .ref b ∧ obAt M F H o b
def nAdr : List (D ⊕ OB) → List V → List Addr
  | .inr _ :: ps, .ref b :: vs => b :: nAdr ps vs
  | _ :: ps, _ :: vs => nAdr ps vs
  | _, _ => []
def nOwn (tp : Bool) (ps : List (D ⊕ OB)) (a : Addr) (vs : List V) : List Addr := if tp then nAdr ps vs else a :: nAdr ps vs
structure NAt (M : Gm) (F H : Hp) (tp : Bool) (ps : List (D ⊕ OB)) (a : Addr) (vs : List V) : Prop where
  top : if tp then F a = some (.tup vs) else H a = some (.lst vs)
  pts : Paired (nAt M F H) ps vs
  nod : (nOwn tp ps a vs).Nodup
theorem nAts_mono {M : Gm} {F F' H H' : Hp} (g : Same F F') : ∀ {ps : List (D ⊕ OB)} {vs : List V}, (∀ b ∈ nAdr ps vs, H' b = H b) → Paired (nAt M F H) ps vs → Paired (nAt M F' H') ps vs
  | [], _, _, .nil => .nil
  | .inl d :: ps, v :: vs, h, .cons h1 h2 => .cons (rep_mono g _ _ h1) (nAts_mono g (fun b hb => h b (by cases v <;> exact hb)) h2)
  | .inr o :: ps, v :: vs, h, .cons h1 h2 => by
    obtain ⟨b, rfl, h1⟩ := h1
    exact .cons ⟨b, rfl, obAt_mono g (h b (List.mem_cons_self ..)) h1⟩ (nAts_mono g (fun b hb => h b (List.mem_cons_of_mem _ hb)) h2)
theorem NAt.mono {M : Gm} {F F' H H' : Hp} {tp : Bool} {ps : List (D ⊕ OB)} {a : Addr} {vs : List V} (n : NAt M F H tp ps a vs) (g : Same F F') (h : ∀ b ∈ nOwn tp ps a vs, H' b = H b) : NAt M F' H' tp ps a vs where
  top := by
    have t := n.top
    cases tp with
    | true => exact g _ _ t
    | false => exact (h a (List.mem_cons_self ..)).trans t
  pts := nAts_mono g (fun b hb => h b (by cases tp with | true => exact hb | false => exact List.mem_cons_of_mem _ hb)) n.pts
  nod := n.nod
theorem nAdr_nt {M : Gm} {F H : Hp} : ∀ {ps : List (D ⊕ OB)} {vs : List V}, Paired (nAt M F H) ps vs → ∀ b ∈ nAdr ps vs, ∃ u, H b = some u ∧ NT u
  | [], _, .nil, b, hb => by cases hb
  | .inl d :: ps, v :: vs, .cons h1 h2, b, hb => nAdr_nt h2 b (by cases v <;> exact hb)
  | .inr o :: ps, v :: vs, .cons h1 h2, b, hb => by
    obtain ⟨b', rfl, h1⟩ := h1
    rcases List.mem_cons.mp hb with rfl | hb
    · exact obAt_nt h1
    · exact nAdr_nt h2 b hb
theorem NAt.nt {M : Gm} {F H : Hp} {tp : Bool} {ps : List (D ⊕ OB)} {a : Addr} {vs : List V} (n : NAt M F H tp ps a vs) {b : Addr} (hb : b ∈ nOwn tp ps a vs) : ∃ u, H b = some u ∧ NT u := by
  have t := n.top
  cases tp with
  | true => exact nAdr_nt n.pts b hb
  | false =>
    rcases List.mem_cons.mp hb with rfl | hb
    · exact ⟨_, t, rfl⟩
    · exact nAdr_nt n.pts b hb
structure Cn (M : Gm) where
  F0 : Hp
  H0 : Hp
  io : Option Addr
  iob : ∀ a, io = some a → H0 a ≠ none
  nt : ∀ b o, H0 b = some o → NT o
  nd : Option (Addr × List V × List Addr)
  ndh : ∀ z, nd = some z → ∀ b ∈ z.2.2, H0 b ≠ none ∧ F0 b = none ∧ io ≠ some b
def slotOk (c : Cn M) (F H : Hp) : R → V → Prop
  | .imm d, v => rep M F d v
  | .own o, v => ∃ a, v = .ref a ∧ F a = none ∧ c.H0 a = none ∧ obAt M F H o a
  | .brw o, v => ∃ a, v = .ref a ∧ F a = none ∧ c.io = some a ∧ obAt M F H o a
  | .nst tp ps, v => ∃ a vs, v = .ref a ∧ c.nd = some (a, vs, nOwn tp ps a vs) ∧ NAt M F c.H0 tp ps a vs
structure Ok (c : Cn M) (F H : Hp) (σ : St) (δ : Sl) : Prop where
  same : Same F H
  grow : Same c.F0 F
  nofz : ∀ b, c.H0 b ≠ none → c.F0 b = none → F b = none
  kept : ∀ b o, c.H0 b = some o → c.io ≠ some b → H b = some o
  ioh : ∀ a, c.io = some a → ∃ u, H a = some u ∧ NT u
  tb : Tb M F H
  len : σ.length = δ.length
  slot : ∀ (i : Nat) (r : R), δ[i]? = some (some r) → ∃ v, σ[i]? = some (some v) ∧ slotOk c F H r v
  dist : ∀ (i j : Nat) (r r' : R) (v : V), i ≠ j → δ[i]? = some (some r) → δ[j]? = some (some r') → r.mu = true → r'.mu = true → σ[i]? = some (some v) → σ[j]? = some (some v) → False
def repR (c : Cn M) (F H : Hp) (σ : St) (δ : Sl) : R → V → Prop
  | .imm d, v => rep M F d v
  | .own o, v => ∃ a, v = .ref a ∧ F a = none ∧ c.H0 a = none ∧ obAt M F H o a ∧ ∀ (i : Nat) (r : R), δ[i]? = some (some r) → r.mu = true → σ[i]? ≠ some (some (V.ref a))
  | .brw _, _ => False
  | .nst tp ps, v => ∃ a vs, v = .ref a ∧ NAt M F H tp ps a vs ∧ ∀ b ∈ nOwn tp ps a vs, F b = none ∧ c.H0 b = none ∧ ∀ (i : Nat) (r : R), δ[i]? = some (some r) → r.mu = true → σ[i]? ≠ some (some (V.ref b))
section
variable {M : Gm} {c : Cn M} {F F' H H' : Hp} {σ : St} {δ : Sl}
theorem slot_nst {tp : Bool} {ps : List (D ⊕ OB)} {v : V} (g : Same F F') (h : slotOk c F H (.nst tp ps) v) : slotOk c F' H' (.nst tp ps) v := by
  obtain ⟨a, vs, h1, h2, h3⟩ := h
  exact ⟨a, vs, h1, h2, h3.mono g fun _ _ => rfl⟩
theorem Ok.h0 (ok : Ok c F H σ δ) {p : Addr} (hp : H p = none) : c.H0 p = none := by
  cases e : c.H0 p with
  | none => rfl
  | some o =>
    by_cases hi : c.io = some p
    · obtain ⟨u, e1, _⟩ := ok.ioh p hi
      rw [hp] at e1; cases e1
    · rw [ok.kept p o e hi] at hp; cases hp
theorem Ok.hn (ok : Ok c F H σ δ) {p : Addr} (hp : c.H0 p ≠ none) : ∃ u, H p = some u ∧ NT u := by
  by_cases hi : c.io = some p
  · exact ok.ioh p hi
  · cases e : c.H0 p with
    | none => exact absurd e hp
    | some o => exact ⟨o, ok.kept p o e hi, c.nt p o e⟩
theorem Ok.h1 (ok : Ok c F H σ δ) {p : Addr} (hp : ∀ o, H p = some o → ¬ NT o) : c.H0 p = none := by
  cases e : c.H0 p with
  | none => rfl
  | some o =>
    obtain ⟨u, e1, e2⟩ := ok.hn (p := p) (by rw [e]; exact fun z => by cases z)
    exact absurd e2 (hp u e1)
theorem Ok.f (ok : Ok c F H σ δ) {p : Addr} (hp : H p = none) : F p = none := ok.same.free hp
theorem Ok.mus (ok : Ok c F H σ δ) {i : Nat} {r : R} (e : δ[i]? = some (some r)) (hm : r.mu = true) : ∃ a o, σ[i]? = some (some (.ref a)) ∧ F a = none ∧ obAt M F H o a ∧ (r = .own o ∧ c.H0 a = none ∨ r = .brw o ∧ c.io = some a) := by
  obtain ⟨v, e1, e2⟩ := ok.slot i r e
  cases r with
  | imm d => cases hm
  | own o => obtain ⟨a, rfl, h1, h2, h3⟩ := e2; exact ⟨a, o, e1, h1, h3, .inl ⟨rfl, h2⟩⟩
  | brw o => obtain ⟨a, rfl, h1, h2, h3⟩ := e2; exact ⟨a, o, e1, h1, h3, .inr ⟨rfl, h2⟩⟩
  | nst tp ps => cases hm
theorem Ok.fresh1 (ok : Ok c F H σ δ) {p : Addr} (hp : ∀ o, H p = some o → ¬ NT o) : ∀ (i : Nat) (r : R), δ[i]? = some (some r) → r.mu = true → σ[i]? ≠ some (some (V.ref p)) := fun i r e hm q => by
  obtain ⟨a, o, e1, _, h3, _⟩ := ok.mus e hm
  rw [e1] at q
  cases q
  obtain ⟨u, hu, n⟩ := obAt_nt h3
  exact hp u hu n
theorem Ok.fresh (ok : Ok c F H σ δ) {p : Addr} (hp : H p = none) : ∀ (i : Nat) (r : R), δ[i]? = some (some r) → r.mu = true → σ[i]? ≠ some (some (V.ref p)) := fun i r e hm q => by
  obtain ⟨a, o, e1, _, h3, _⟩ := ok.mus e hm
  rw [e1] at q
  cases q
  obtain ⟨u, hu⟩ := obAt_some h3
  rw [hu] at hp; cases hp
theorem Ok.alloc (ok : Ok c F H σ δ) {p : Addr} {o : HO} (hp : H p = none) : Ok c F (upd H p o) σ δ where
  same := fun b u e => by rw [upd_ne (ne_of_none (ok.same b u e) hp)]; exact ok.same b u e
  grow := ok.grow
  nofz := ok.nofz
  kept := fun b u e hi => by
    have := ok.kept b u e hi
    rw [upd_ne (ne_of_none this hp)]; exact this
  ioh := fun a e => by
    obtain ⟨u, e1, e2⟩ := ok.ioh a e
    exact ⟨u, by rw [upd_ne (ne_of_none e1 hp)]; exact e1, e2⟩
  tb := ok.tb.alloc hp
  len := ok.len
  slot := fun i r e => by
    obtain ⟨v, e1, e2⟩ := ok.slot i r e
    refine ⟨v, e1, ?_⟩
    cases r with
    | imm d => exact e2
    | own ob =>
      obtain ⟨a, rfl, h1, h2, h3⟩ := e2
      obtain ⟨u, hu⟩ := obAt_some h3
      exact ⟨a, rfl, h1, h2, obAt_mono (Same.refl _) (upd_ne (ne_of_none hu hp)) h3⟩
    | brw ob =>
      obtain ⟨a, rfl, h1, h2, h3⟩ := e2
      obtain ⟨u, hu⟩ := obAt_some h3
      exact ⟨a, rfl, h1, h2, obAt_mono (Same.refl _) (upd_ne (ne_of_none hu hp)) h3⟩
    | nst tp ps => exact e2
  dist := ok.dist
theorem Ok.made (ok : Ok c F H σ δ) {p : Addr} {o : HO} {ob : OB} (hp : H p = none) (h : obAt M F (upd H p o) ob p) : repR c F (upd H p o) σ δ (.own ob) (.ref p) :=
  ⟨p, rfl, ok.f hp, ok.h0 hp, h, ok.fresh hp⟩
theorem Ok.freeze (ok : Ok c F H σ δ) {ob : OB} {v : V} (r : repR c F H σ δ (.own ob) v) : LkS (fun H' => ∃ F', Same F F' ∧ Ok c F' H' σ δ ∧ rep M F' ob.toD v) H := by
  obtain ⟨a, rfl, h1, h2, h3, h4⟩ := r
  obtain ⟨u, hu, hnu, hmu⟩ := obAt_mut h3
  have key : ∀ (u' : HO) (H' : Hp), NT u' → H' a = some u' → (∀ b, b ≠ a → H' b = H b) → Tb M (upd F a u') H' → Same F (upd F a u') ∧ Ok c (upd F a u') H' σ δ := fun u' H' hn' ea eb htb => by
    have g : Same F (upd F a u') := fun b o e => by rw [upd_ne (ne_of_none e h1)]; exact e
    refine ⟨g, fun b o e => ?_, ok.grow.trans g, fun b e1 e2 => ?_, fun b o e hi => ?_, fun b e => ?_, htb, ok.len, fun i r e => ?_, ok.dist⟩
    · by_cases q : b = a
      · subst q; rw [upd_same] at e; cases e; exact ea
      · rw [upd_ne q] at e; rw [eb b q]; exact ok.same b o e
    · have q : b ≠ a := fun z => e1 (z ▸ h2)
      rw [upd_ne q]; exact ok.nofz b e1 e2
    · have q : b ≠ a := fun z => by rw [z, h2] at e; cases e
      rw [eb b q]; exact ok.kept b o e hi
    · have q : b ≠ a := fun z => c.iob b e (z ▸ h2)
      rw [eb b q]; exact ok.ioh b e
    · obtain ⟨v, e1, e2⟩ := ok.slot i r e
      refine ⟨v, e1, ?_⟩
      cases r with
      | imm d => exact rep_mono g _ _ e2
      | own o =>
        obtain ⟨a', rfl, k1, k2, k3⟩ := e2
        have q : a' ≠ a := fun z => h4 i _ e rfl (by rw [e1, z])
        exact ⟨a', rfl, by rw [upd_ne q]; exact k1, k2, obAt_mono g (eb a' q) k3⟩
      | brw o =>
        obtain ⟨a', rfl, k1, k2, k3⟩ := e2
        have q : a' ≠ a := fun z => h4 i _ e rfl (by rw [e1, z])
        exact ⟨a', rfl, by rw [upd_ne q]; exact k1, k2, obAt_mono g (eb a' q) k3⟩
      | nst tp ps => exact slot_nst g e2
  cases hd : ob.dic with
  | false =>
    obtain ⟨g, ok'⟩ := key u H hnu hu (fun _ _ => rfl) (ok.tb.frz hu hnu)
    exact .now ⟨upd F a u, g, ok', obAt_rep hd (obAt_mono g (upd_same.trans hu.symm) h3)⟩
  | true =>
    refine .lock a u hu hmu fun od => .now ?_
    obtain ⟨g, ok'⟩ := key (.frz od u) (upd H a (.frz od u)) rfl upd_same (fun b z => upd_ne z) ((ok.tb.frz hu hnu rfl).keep (fun b o e z => by
      rw [upd_ne (fun y => by rw [y, hu] at e; cases e; exact z hnu)]; exact e) (fun b o e z q => q) (ok.tb.frz hu hnu rfl).nt)
    exact ⟨upd F a (.frz od u), g, ok', obAt_repD hd hu upd_same g h3⟩
theorem getElem?_set_some {α : Type} {l : List α} {i j : Nat} {x y : α} (h : (l.set i x)[j]? = some y) : (i = j ∧ x = y ∧ i < l.length) ∨ (i ≠ j ∧ l[j]? = some y) := by
  by_cases e : i = j
  · subst e
    by_cases hl : i < l.length
    · rw [List.getElem?_set_self hl] at h
      exact .inl ⟨rfl, Option.some.inj h, hl⟩
    · rw [List.getElem?_eq_none (by simpa using hl)] at h; cases h
  · rw [List.getElem?_set_ne e] at h
    exact .inr ⟨e, h⟩
theorem Ok.setI (ok : Ok c F H σ δ) {d : D} {v : V} (i : Nat) (r : rep M F d v) : Ok c F H (σ.set i (some v)) (δ.set i (some (.imm d))) where
  same := ok.same
  grow := ok.grow
  nofz := ok.nofz
  kept := ok.kept
  ioh := ok.ioh
  tb := ok.tb
  len := by simp [ok.len]
  slot := fun j r' e => by
    rcases getElem?_set_some e with ⟨rfl, e1, hl⟩ | ⟨hn, e1⟩
    · cases e1
      exact ⟨v, List.getElem?_set_self (by rw [ok.len]; exact hl), r⟩
    · rw [List.getElem?_set_ne hn]
      exact ok.slot j r' e1
  dist := fun j k r1 r2 w hjk e1 e2 m1 m2 s1 s2 => by
    rcases getElem?_set_some e1 with ⟨rfl, q, _⟩ | ⟨hn, q1⟩
    · cases q; cases m1
    · rcases getElem?_set_some e2 with ⟨rfl, q, _⟩ | ⟨hn2, q2⟩
      · cases q; cases m2
      · rw [List.getElem?_set_ne hn] at s1
        rw [List.getElem?_set_ne hn2] at s2
        exact ok.dist j k r1 r2 w hjk q1 q2 m1 m2 s1 s2
theorem Ok.setO (ok : Ok c F H σ δ) {ob : OB} {v : V} (i : Nat) (r : repR c F H σ δ (.own ob) v) : Ok c F H (σ.set i (some v)) (δ.set i (some (.own ob))) where
  same := ok.same
  grow := ok.grow
  nofz := ok.nofz
  kept := ok.kept
  ioh := ok.ioh
  tb := ok.tb
  len := by simp [ok.len]
  slot := fun j r' e => by
    rcases getElem?_set_some e with ⟨rfl, e1, hl⟩ | ⟨hn, e1⟩
    · cases e1
      obtain ⟨a, rfl, h1, h2, h3, _⟩ := r
      exact ⟨.ref a, List.getElem?_set_self (by rw [ok.len]; exact hl), a, rfl, h1, h2, h3⟩
    · rw [List.getElem?_set_ne hn]
      exact ok.slot j r' e1
  dist := fun j k r1 r2 w hjk e1 e2 m1 m2 s1 s2 => by
    obtain ⟨a, rfl, h1, h2, h3, h4⟩ := r
    rcases getElem?_set_some e1 with ⟨rfl, q, hl⟩ | ⟨hn, q1⟩
    · rw [List.getElem?_set_self (by rw [ok.len]; exact hl)] at s1
      rcases getElem?_set_some e2 with ⟨rfl, q, _⟩ | ⟨hn2, q2⟩
      · exact hjk rfl
      · rw [List.getElem?_set_ne hn2] at s2
        cases s1
        exact h4 k r2 q2 m2 s2
    · rw [List.getElem?_set_ne hn] at s1
      rcases getElem?_set_some e2 with ⟨rfl, q, hl⟩ | ⟨hn2, q2⟩
      · rw [List.getElem?_set_self (by rw [ok.len]; exact hl)] at s2
        cases s2
        exact h4 j r1 q1 m1 s1
      · rw [List.getElem?_set_ne hn2] at s2
        exact ok.dist j k r1 r2 w hjk q1 q2 m1 m2 s1 s2
theorem Ok.mutate (ok : Ok c F H σ δ) {i : Nat} {r r' : R} {a : Addr} {ob ob' : OB} (e : δ[i]? = some (some r)) (hr : r = .own ob ∧ r' = .own ob' ∨ r = .brw ob ∧ r' = .brw ob') (ea : σ[i]? = some (some (.ref a))) (g : Same F F')
    (hF : ∀ b o, b ≠ a → H b = some o → NT o → F b = none → F' b = none) (hFa : F' a = none)
    (hk : ∀ b o, b ≠ a → NT o → H b = some o → H' b = some o) (hs : Same F' H') (htb : Tb M F' H') (hob : obAt M F' H' ob' a) : Ok c F' H' σ (δ.set i (some r')) := by
  have hm : r.mu = true := by rcases hr with ⟨rfl, _⟩ | ⟨rfl, _⟩ <;> rfl
  have hm' : r'.mu = true := by rcases hr with ⟨_, rfl⟩ | ⟨_, rfl⟩ <;> rfl
  obtain ⟨a', o', q1, q2, q3, q4⟩ := ok.mus e hm
  rw [ea] at q1; cases q1
  have ha0 : c.H0 a = none ∨ c.io = some a := by rcases q4 with ⟨_, z⟩ | ⟨_, z⟩; exact .inl z; exact .inr z
  have hfa : F a = none := q2
  refine ⟨hs, ok.grow.trans g, fun b e1 e2 => ?_, fun b o e1 e2 => ?_, fun b e1 => ?_, htb, by simp [ok.len], fun j r1 e1 => ?_, fun j k r1 r2 w hjk e1 e2 m1 m2 s1 s2 => ?_⟩
  · by_cases z : b = a
    · subst z; exact hFa
    · obtain ⟨u, k1, k2⟩ := ok.hn e1
      exact hF b u z k1 k2 (ok.nofz b e1 e2)
  · have z : b ≠ a := fun z => by
      subst z
      rcases ha0 with z | z
      · rw [z] at e1; cases e1
      · exact e2 z
    exact hk b o z (c.nt b o e1) (ok.kept b o e1 e2)
  · obtain ⟨u, hu, hn⟩ := obAt_nt hob
    by_cases z : b = a
    · subst z; exact ⟨u, hu, hn⟩
    · obtain ⟨o, q1, q2⟩ := ok.ioh b e1
      exact ⟨o, hk b o z q2 q1, q2⟩
  · rcases getElem?_set_some e1 with ⟨rfl, z, hl⟩ | ⟨hn, e1⟩
    · cases z
      refine ⟨.ref a, ea, ?_⟩
      rcases hr with ⟨rfl, rfl⟩ | ⟨rfl, rfl⟩
      · rcases q4 with ⟨_, z⟩ | ⟨z, _⟩
        · exact ⟨a, rfl, hFa, z, hob⟩
        · cases z
      · rcases q4 with ⟨z, _⟩ | ⟨_, z⟩
        · cases z
        · exact ⟨a, rfl, hFa, z, hob⟩
    · obtain ⟨v, s1, s2⟩ := ok.slot j r1 e1
      refine ⟨v, s1, ?_⟩
      cases r1 with
      | imm d => exact rep_mono g _ _ s2
      | own o =>
        obtain ⟨b, rfl, k1, k2, k3⟩ := s2
        have z : b ≠ a := fun z => ok.dist i j r (.own o) (.ref a) hn e e1 hm rfl ea (by rw [s1, z])
        obtain ⟨u, hu, hn⟩ := obAt_nt k3
        exact ⟨b, rfl, hF b u z hu hn k1, k2, obAt_mono g ((hk b u z hn hu).trans hu.symm) k3⟩
      | brw o =>
        obtain ⟨b, rfl, k1, k2, k3⟩ := s2
        have z : b ≠ a := fun z => ok.dist i j r (.brw o) (.ref a) hn e e1 hm rfl ea (by rw [s1, z])
        obtain ⟨u, hu, hn⟩ := obAt_nt k3
        exact ⟨b, rfl, hF b u z hu hn k1, k2, obAt_mono g ((hk b u z hn hu).trans hu.symm) k3⟩
      | nst tp ps => exact slot_nst g s2
  · have f1 : ∃ q, δ[j]? = some (some q) ∧ q.mu = true := by
      rcases getElem?_set_some e1 with ⟨rfl, z, hl⟩ | ⟨hn, z⟩
      · exact ⟨r, e, hm⟩
      · exact ⟨r1, z, m1⟩
    have f2 : ∃ q, δ[k]? = some (some q) ∧ q.mu = true := by
      rcases getElem?_set_some e2 with ⟨rfl, z, hl⟩ | ⟨hn, z⟩
      · exact ⟨r, e, hm⟩
      · exact ⟨r2, z, m2⟩
    obtain ⟨x1, y1, z1⟩ := f1
    obtain ⟨x2, y2, z2⟩ := f2
    exact ok.dist j k x1 x2 w hjk y1 y2 z1 z2 s1 s2
theorem Ok.write (ok : Ok c F H σ δ) {i : Nat} {r r' : R} {a : Addr} {ob ob' : OB} {o : HO} (e : δ[i]? = some (some r)) (hr : r = .own ob ∧ r' = .own ob' ∨ r = .brw ob ∧ r' = .brw ob') (ea : σ[i]? = some (some (.ref a)))
    (hob : obAt M F (upd H a o) ob' a) : Ok c F (upd H a o) σ (δ.set i (some r')) := by
  have hm : r.mu = true := by rcases hr with ⟨rfl, _⟩ | ⟨rfl, _⟩ <;> rfl
  obtain ⟨a', o', q1, q2, q3, q4⟩ := ok.mus e hm
  rw [ea] at q1; cases q1
  obtain ⟨u0, hu0, hn0⟩ := obAt_nt q3
  refine ok.mutate e hr ea (Same.refl _) (fun _ _ _ _ _ z => z) q2 (fun b u z _ h => by rw [upd_ne z]; exact h) (fun b u h => ?_) (ok.tb.write hu0 hn0) hob
  have z : b ≠ a := fun z => by rw [z, q2] at h; cases h
  rw [upd_ne z]; exact ok.same b u h
end
structure Stp (M : Gm) (F H F' H' : Hp) (io : Option Addr) : Prop where
  grow : Same F F'
  nofz : ∀ b o, H b = some o → NT o → F b = none → F' b = none
  kept : ∀ b o, H b = some o → NT o → io ≠ some b → H' b = some o
  same : Same F' H'
  tb : Tb M F' H'
def ioAt (M : Gm) (F H : Hp) : Option OB → Addr → Prop
  | none, _ => True
  | some o, a => F a = none ∧ obAt M F H o a
def ioV : Option OB → Addr → List V
  | none, _ => []
  | some _, a => [.ref a]
def resAt (M : Gm) (H F' H' : Hp) : R → V → Prop
  | .imm d, v => rep M F' d v
  | .own o, v => ∃ a, v = .ref a ∧ F' a = none ∧ (∀ u, H a = some u → ¬ NT u) ∧ obAt M F' H' o a
  | .brw _, _ => False
  | .nst tp ps, v => ∃ a vs, v = .ref a ∧ NAt M F' H' tp ps a vs ∧ ∀ b ∈ nOwn tp ps a vs, F' b = none ∧ ∀ u, H b = some u → ¬ NT u
def xAt (M : Gm) (F : Hp) (x : XD) (cls : Value) (d : Option Addr) (H : Hp) : Prop :=
  ∃ C, M.G x.c = some C ∧ cls = .ref C ∧ (x.vs = [] ∨ ∃ (dd : Addr) (fs : List (Str × V)), d = some dd ∧ F dd = some (.xd fs) ∧ fs.map (·.1) = M.nm x.c ∧ reps M F x.vs (fs.map (·.2)))
def spD (M : Gm) (f : Fm) : Sp := fun vs H Q E => ∃ (F : Hp) (io : Option OB) (a : Addr) (ws : List V) (ds : List D),
  vs = ioV io a ++ ws ∧ Same F H ∧ Tb M F H ∧ reps M F ds ws ∧ ioAt M F H io a ∧
  match f io ds with
  | .ok r io' => ∀ v F' H', Stp M F H F' H' (io.map fun _ => a) → resAt M H F' H' r v → ioAt M F' H' io' a → Q v H'
  | .exc x io' => ∀ cls d F' H', Stp M F H F' H' (io.map fun _ => a) → xAt M F' x cls d H' → ioAt M F' H' io' a → E cls d H'
  | .bad => False
section
variable {M : Gm} {c : Cn M} {F F' H H' : Hp} {σ : St} {δ : Sl}
theorem Ok.stp (ok : Ok c F H σ δ) (st : Stp M F H F' H' none) : Ok c F' H' σ δ := by
  have kp : ∀ b o, H b = some o → NT o → H' b = some o := fun b o e n => st.kept b o e n (fun z => by cases z)
  refine ⟨st.same, ok.grow.trans st.grow, fun b e1 e2 => ?_, fun b o e1 e2 => kp b o (ok.kept b o e1 e2) (c.nt b o e1), fun b e1 => ?_, st.tb, ok.len, fun i r e => ?_, ok.dist⟩
  · obtain ⟨u, k1, k2⟩ := ok.hn e1
    exact st.nofz b u k1 k2 (ok.nofz b e1 e2)
  · obtain ⟨o, q1, q2⟩ := ok.ioh b e1
    exact ⟨o, kp b o q1 q2, q2⟩
  · obtain ⟨v, s1, s2⟩ := ok.slot i r e
    refine ⟨v, s1, ?_⟩
    cases r with
    | imm d => exact rep_mono st.grow _ _ s2
    | own o =>
      obtain ⟨b, rfl, k1, k2, k3⟩ := s2
      obtain ⟨u, hu, hn⟩ := obAt_nt k3
      exact ⟨b, rfl, st.nofz b u hu hn k1, k2, obAt_mono st.grow ((kp b u hu hn).trans hu.symm) k3⟩
    | brw o =>
      obtain ⟨b, rfl, k1, k2, k3⟩ := s2
      obtain ⟨u, hu, hn⟩ := obAt_nt k3
      exact ⟨b, rfl, st.nofz b u hu hn k1, k2, obAt_mono st.grow ((kp b u hu hn).trans hu.symm) k3⟩
    | nst tp ps => exact slot_nst st.grow s2
theorem Ok.stpIo (ok : Ok c F H σ δ) {i : Nat} {r r' : R} {a : Addr} {ob ob' : OB} (e : δ[i]? = some (some r)) (hr : r = .own ob ∧ r' = .own ob' ∨ r = .brw ob ∧ r' = .brw ob') (ea : σ[i]? = some (some (.ref a)))
    (st : Stp M F H F' H' (some a)) (h : ioAt M F' H' (some ob') a) : Ok c F' H' σ (δ.set i (some r')) :=
  ok.mutate e hr ea st.grow (fun b o _ e1 n e2 => st.nofz b o e1 n e2) h.1 (fun b o z n q => st.kept b o q n (fun y => z (Option.some.inj y).symm)) st.same st.tb h.2
theorem Ok.resR (ok : Ok c F H σ δ) (st : Stp M F H F' H' none) {r : R} {v : V} (h : resAt M H F' H' r v) : repR c F' H' σ δ r v := by
  cases r with
  | imm d => exact h
  | own o =>
    obtain ⟨a, rfl, h1, h2, h3⟩ := h
    exact ⟨a, rfl, h1, ok.h1 h2, h3, ok.fresh1 h2⟩
  | brw o => exact h
  | nst tp ps =>
    obtain ⟨a, vs, h1, h2, h3⟩ := h
    exact ⟨a, vs, h1, h2, fun b hb => ⟨(h3 b hb).1, ok.h1 (h3 b hb).2, ok.fresh1 (h3 b hb).2⟩⟩
end
end
end TS

namespace TS
open PySem L2
noncomputable section
def prep (M : Gm) (F H : Hp) (d : D) (v : V) : Prop := rep M F d v ∨ ∃ o a, v = V.ref a ∧ d = OB.toD o ∧ obAt M F H o a
def Post {α β : Type} (c : Cn M) (W : WX) (F : Hp) (σ : St) (ρ : Hp → Hp → Sl → α → β → Prop) (r : Res α) (Q : β → Hp → Prop) : Prop := match r with
  | .ok a δ' => ∀ v F' H', Same F F' → Ok c F' H' σ δ' → ρ F' H' δ' a v → Q v H'
  | .exc x δ' => ∀ cls d F' H', Same F F' → Ok c F' H' σ δ' → xAt M F' x cls d H' → W cls d σ H'
  | .bad => False
abbrev ρD (c : Cn M) : Hp → Hp → Sl → D → V → Prop := fun F _ _ d v => rep M F d v
abbrev ρP (c : Cn M) : Hp → Hp → Sl → D → V → Prop := fun F H _ d v => prep M F H d v
abbrev ρR (c : Cn M) (σ : St) : Hp → Hp → Sl → R → V → Prop := fun F H δ r v => repR c F H σ δ r v
abbrev ρA (c : Cn M) : Hp → Hp → Sl → List D → List V → Prop := fun F _ _ ds vs => reps M F ds vs
abbrev ρB (c : Cn M) : Hp → Hp → Sl → List D → List V → Prop := fun F H _ ds vs => Paired (prep M F H) ds vs
abbrev ρT : Hp → Hp → Sl → Bool → Bool → Prop := fun _ _ _ b k => b = k
section
variable {M : Gm} {c : Cn M} {W : WX} {F F1 H H1 : Hp} {σ : St} {δ : Sl}
theorem Post.shift {α β : Type} {ρ : Hp → Hp → Sl → α → β → Prop} {r : Res α} {Q : β → Hp → Prop} (h : Post c W F σ ρ r Q) (g : Same F F1) : Post c W F1 σ ρ r Q := by
  cases r with
  | ok a δ' => exact fun v F' H' s => h v F' H' (g.trans s)
  | exc x δ' => exact fun cls d F' H' s => h cls d F' H' (g.trans s)
  | bad => exact h
theorem Post.bind {α β γ ζ : Type} {m : Res α} {k : α → Sl → Res γ} {ρ : Hp → Hp → Sl → α → β → Prop} {ρ' : Hp → Hp → Sl → γ → ζ → Prop} {Q : ζ → Hp → Prop} {T : β → Hp → Prop} (h : Post c W F σ ρ' (m.bind k) Q)
    (f : ∀ a δ1 v F1 H1, m = .ok a δ1 → Same F F1 → Ok c F1 H1 σ δ1 → ρ F1 H1 δ1 a v → Post c W F1 σ ρ' (k a δ1) Q → T v H1) : Post c W F σ ρ m T := by
  cases m with
  | ok a δ' => exact fun v F' H' s ok r => f a δ' v F' H' rfl s ok r (Post.shift h s)
  | exc x δ' => exact h
  | bad => exact h
theorem Post.ok {α β : Type} {ρ : Hp → Hp → Sl → α → β → Prop} {a : α} {δ : Sl} {Q : β → Hp → Prop} (h : Post c W F σ ρ (.ok a δ) Q) {v : β} (ok : Ok c F H σ δ) (r : ρ F H δ a v) : Q v H := h v F H (Same.refl _) ok r
end
def DE (M : Gm) (W : WX) (X : Cx) (e : Expr) (f : FE) : Prop := ∃ t, PE X e t ∧ ∀ (c : Cn M) F H σ δ Q, Ok c F H σ δ → Post c W F σ (ρR c σ) (f δ) Q → t σ H Q
def DI (M : Gm) (W : WX) (X : Cx) (e : Expr) (f : FD) : Prop := ∃ t, PE X e t ∧ ∀ (c : Cn M) F H σ δ Q, Ok c F H σ δ → Post c W F σ (ρD c) (f δ) Q → t σ H Q
def DP (M : Gm) (W : WX) (X : Cx) (e : Expr) (f : FD) : Prop := ∃ t, PE X e t ∧ ∀ (c : Cn M) F H σ δ Q, Ok c F H σ δ → Post c W F σ (ρP c) (f δ) Q → t σ H Q
def DT (M : Gm) (W : WX) (X : Cx) (e : Expr) (f : FT) : Prop := ∃ t, PT X e t ∧ ∀ (c : Cn M) F H σ δ Q, Ok c F H σ δ → Post c W F σ ρT (f δ) Q → t σ H Q
def DW (M : Gm) (W : WX) (X : Cx) (e : Expr) (f : FT) : Prop := ∃ t, PW X e t ∧ ∀ (c : Cn M) F H σ δ Q, Ok c F H σ δ → Post c W F σ ρT (f δ) Q → t σ H Q
def DA (M : Gm) (W : WX) (X : Cx) (es : List Expr) (f : FA) : Prop := ∃ t, PA X es t ∧ ∀ (c : Cn M) F H σ δ Q, Ok c F H σ δ → Post c W F σ (ρA c) (f δ) Q → t σ H Q
def DB (M : Gm) (W : WX) (X : Cx) (es : List Expr) (f : FA) : Prop := ∃ t, PA X es t ∧ ∀ (c : Cn M) F H σ δ Q, Ok c F H σ δ → Post c W F σ (ρB c) (f δ) Q → t σ H Q
def toE (f : FD) : FE := fun δ => (f δ).bind fun d δ => .ok (.imm d) δ
def frz (f : FE) : FD := fun δ => (f δ).bind fun r δ => match r with
  | .imm d => .ok d δ
  | .own o => .ok o.toD δ
  | .brw _ => .bad
  | .nst _ _ => .bad
section
variable {M : Gm} {c : Cn M} {W : WX} {X : Cx} {e : Expr}
theorem DI.toE {f : FD} (h : DI M W X e f) : DE M W X e (toE f) := by
  obtain ⟨t, p, h⟩ := h
  exact ⟨t, p, fun c F H σ δ Q ok post => h c F H σ δ Q ok (Post.bind post fun d δ1 v F1 H1 _ s ok1 r post => post.ok ok1 r)⟩
theorem DE.frz {f : FE} (h : DE M W X e f) : DI M W X e (frz f) := by
  obtain ⟨t, p, h⟩ := h
  refine ⟨_, pe_lks p, fun c F H σ δ Q ok post => h c F H σ δ (fun v H' => LkS (Q v) H') ok (Post.bind post fun r δ1 v F1 H1 _ s ok1 rr post => ?_)⟩
  cases r with
  | imm d => exact .now (post.ok ok1 rr)
  | own o => exact (ok1.freeze rr).mono fun H2 ⟨F', g, ok', r'⟩ => post v F' H2 g ok' r'
  | brw o => exact post.elim
  | nst _ _ => exact post.elim
theorem DE.pk {f : FE} (h : DE M W X e f) : DP M W X e (TS.frz f) := by
  obtain ⟨t, p, h⟩ := h
  refine ⟨t, p, fun c F H σ δ Q ok post => h c F H σ δ Q ok (Post.bind post fun r δ1 v F1 H1 _ s ok1 rr post => ?_)⟩
  cases r with
  | imm d => exact post.ok ok1 (.inl rr)
  | own o =>
    obtain ⟨a, rfl, h1, h2, h3, h4⟩ := rr
    exact post.ok ok1 (.inr ⟨o, a, rfl, rfl, h3⟩)
  | brw o => exact post.elim
  | nst _ _ => exact post.elim
theorem DI.pk {f : FD} (h : DI M W X e f) : DP M W X e f := by
  obtain ⟨t, p, h⟩ := h
  refine ⟨t, p, fun c F H σ δ Q ok post => h c F H σ δ Q ok ?_⟩
  cases q : f δ with
  | ok d δ1 => rw [q] at post; exact fun v F' H' s ok' r => post v F' H' s ok' (.inl r)
  | exc x δ1 => rw [q] at post; exact post
  | bad => rw [q] at post; exact post
end
def kD (d : D) : FD := fun δ => .ok d δ
def vI (i : Nat) : FD := fun δ => match δ[i]? with
  | some (some (.imm d)) => .ok d δ
  | some (some (.own o)) => .ok o.toD (δ.set i (some (.imm o.toD)))
  | _ => .bad
def vP (i : Nat) : FD := fun δ => match δ[i]? with
  | some (some (.imm d)) => .ok d δ
  | some (some (.own o)) => .ok o.toD δ
  | some (some (.brw o)) => .ok o.toD δ
  | _ => .bad
def vR (i : Nat) : FE := fun δ => match δ[i]? with
  | some (some (.imm d)) => .ok (.imm d) δ
  | some (some (.own o)) => .ok (.own o) (δ.set i none)
  | _ => .bad
section
variable {M : Gm} {c : Cn M} {W : WX} {X : Cx} {e : Expr}
theorem di_c {v : V} {d : D} (h : PE X e (tC v)) (r : ∀ F, rep M F d v) : DI M W X e (kD d) := ⟨_, h, fun c F H σ δ Q ok post => post.ok ok (r F)⟩
theorem di_int {i j pos} : DI M W X (.Constant (.int i) j pos) (kD (.int i)) := di_c pe_int fun F => by unfold rep; rfl
theorem di_bl {b j pos} : DI M W X (.Constant (.bool b) j pos) (kD (.bl b)) := di_c pe_bl fun F => by unfold rep; rfl
theorem di_non {j pos} : DI M W X (.Constant .none j pos) (kD .non) := di_c pe_non fun F => by unfold rep; rfl
theorem di_str {x j pos} : DI M W X (.Constant (.str x) j pos) (kD (.str x)) := di_c pe_str fun F => by unfold rep; rfl
theorem Ok.drop {F H : Hp} {σ : St} {δ : Sl} (ok : Ok c F H σ δ) (i : Nat) : Ok c F H σ (δ.set i none) where
  same := ok.same
  grow := ok.grow
  nofz := ok.nofz
  kept := ok.kept
  ioh := ok.ioh
  tb := ok.tb
  len := by simp [ok.len]
  slot := fun j r e => by
    rcases getElem?_set_some e with ⟨_, e1, _⟩ | ⟨_, e1⟩
    · cases e1
    · exact ok.slot j r e1
  dist := fun j k r1 r2 w hjk e1 e2 m1 m2 s1 s2 => by
    rcases getElem?_set_some e1 with ⟨_, q, _⟩ | ⟨_, q1⟩
    · cases q
    · rcases getElem?_set_some e2 with ⟨_, q, _⟩ | ⟨_, q2⟩
      · cases q
      · exact ok.dist j k r1 r2 w hjk q1 q2 m1 m2 s1 s2
theorem Ok.take {F H : Hp} {σ : St} {δ : Sl} (ok : Ok c F H σ δ) {i : Nat} {o : OB} (e : δ[i]? = some (some (.own o))) : ∃ v, σ[i]? = some (some v) ∧ repR c F H σ (δ.set i none) (.own o) v := by
  obtain ⟨v, e1, a, rfl, h1, h2, h3⟩ := ok.slot i _ e
  refine ⟨.ref a, e1, a, rfl, h1, h2, h3, fun j r q hm z => ?_⟩
  rcases getElem?_set_some q with ⟨_, q, _⟩ | ⟨hn, q⟩
  · cases q
  · exact ok.dist i j _ r _ hn e q rfl hm e1 z
theorem Ok.setSame {F H : Hp} {σ : St} {δ : Sl} (ok : Ok c F H σ δ) {i : Nat} {d : D} {v : V} (e1 : σ[i]? = some (some v)) (r : rep M F d v) : Ok c F H σ (δ.set i (some (.imm d))) := by
  have h := ok.setI i r
  have e : σ.set i (some v) = σ := by
    apply List.ext_getElem?
    intro j
    by_cases hj : i = j
    · subst hj
      rw [List.getElem?_set_self (List.getElem?_eq_some_iff.mp e1).1, e1]
    · rw [List.getElem?_set_ne hj]
  rw [e] at h
  exact h
theorem di_var {i : Nat} (h : PE X e (tVar i)) : DI M W X e (vI i) := by
  refine ⟨_, pe_lks h, fun c F H σ δ Q ok post => ?_⟩
  unfold vI at post
  split at post
  · rename_i d q
    obtain ⟨v, e1, e2⟩ := ok.slot i _ q
    exact ⟨v, e1, .now (post.ok ok e2)⟩
  · rename_i o q
    obtain ⟨v, e1, e2⟩ := ok.take q
    refine ⟨v, e1, ((ok.drop i).freeze e2).mono fun H2 ⟨F', g, ok', r'⟩ => ?_⟩
    have ok2 := ok'.setSame (i := i) e1 r'
    rw [List.set_set] at ok2
    exact post v F' H2 g ok2 r'
  · exact post.elim
theorem dp_var {i : Nat} (h : PE X e (tVar i)) : DP M W X e (vP i) := by
  refine ⟨_, h, fun c F H σ δ Q ok post => ?_⟩
  unfold vP at post
  split at post
  · rename_i d q
    obtain ⟨v, e1, e2⟩ := ok.slot i _ q
    exact ⟨v, e1, post.ok ok (.inl e2)⟩
  · rename_i o q
    obtain ⟨v, e1, a, rfl, h1, h2, h3⟩ := ok.slot i _ q
    exact ⟨_, e1, post.ok ok (.inr ⟨o, a, rfl, rfl, h3⟩)⟩
  · rename_i o q
    obtain ⟨v, e1, a, rfl, h1, h2, h3⟩ := ok.slot i _ q
    exact ⟨_, e1, post.ok ok (.inr ⟨o, a, rfl, rfl, h3⟩)⟩
  · exact post.elim
theorem de_var {i : Nat} (h : PE X e (tVar i)) : DE M W X e (vR i) := by
  refine ⟨_, h, fun c F H σ δ Q ok post => ?_⟩
  unfold vR at post
  split at post
  · rename_i d q
    obtain ⟨v, e1, e2⟩ := ok.slot i _ q
    exact ⟨v, e1, post.ok ok e2⟩
  · rename_i o q
    obtain ⟨v, e1, e2⟩ := ok.take q
    exact ⟨v, e1, post.ok (ok.drop i) e2⟩
  · exact post.elim
end
section
variable {M : Gm} {c : Cn M} {F H : Hp} {v : V}
theorem prep_non (h : prep M F H .non v) : v = .non := by
  rcases h with h | ⟨o, a, _, e, _⟩
  · unfold rep at h; exact h
  · cases o <;> cases e
theorem prep_bl {b : Bool} (h : prep M F H (.bl b) v) : v = .bl b := by
  rcases h with h | ⟨o, a, _, e, _⟩
  · unfold rep at h; exact h
  · cases o <;> cases e
theorem prep_int {i : Int} (h : prep M F H (.int i) v) : v = .int i := by
  rcases h with h | ⟨o, a, _, e, _⟩
  · unfold rep at h; exact h
  · cases o <;> cases e
theorem prep_str {x : Str} (h : prep M F H (.str x) v) : v = .str x := by
  rcases h with h | ⟨o, a, _, e, _⟩
  · unfold rep at h; exact h
  · cases o <;> cases e
theorem prep_lst {ds : List D} (s : Same F H) (h : prep M F H (.lst ds) v) : ∃ a vs, v = .ref a ∧ H a = some (.lst vs) ∧ reps M F ds vs := by
  rcases h with h | ⟨o, a, ev, e, h⟩
  · unfold rep at h
    obtain ⟨a, vs, h1, h2, h3⟩ := h
    exact ⟨a, vs, h1, s _ _ h2, h3⟩
  · cases o <;> cases e
    obtain ⟨vs, h1, h2⟩ := h
    exact ⟨a, vs, ev, h1, h2⟩
theorem prep_tup {ds : List D} (s : Same F H) (h : prep M F H (.tup ds) v) : ∃ a vs, v = .ref a ∧ SqT M.K H a vs ∧ reps M F ds vs := by
  rcases h with h | ⟨o, a, ev, e, h⟩
  · unfold rep at h
    obtain ⟨a, vs, h1, h2, h3⟩ := h
    exact ⟨a, vs, h1, SqT.of (s _ _ h2), h3⟩
  · cases o <;> cases e
theorem reps_kt {M : Gm} {F : Hp} : ∀ ns : List Int, reps M F (ns.map D.int) (ns.map V.int)
  | [] => reps_nil
  | n :: ns => reps_cons (by unfold rep; rfl) (reps_kt ns)
theorem ktup_sq {K : PySem.W.Frag} {H : Hp} {a : Addr} {ns : List Int} (h : KTup K a ns) : SqT K H a (ns.map V.int) := by
  obtain ⟨o, its, n, h1, h2, h3, h4, h5, _⟩ := h
  exact .inr ⟨o, its, n, h1, h2, h3, by rw [sizeLine_eq]; omega, h5⟩
theorem itup_sq {K : PySem.W.Frag} {F H : Hp} {a : Addr} {ns : List Int} (s : Same F H) (h : ITup K F a ns) : SqT K H a (ns.map V.int) := by
  rcases h with h | ⟨o, h, _⟩
  · exact ktup_sq h
  · exact .inl (.inr ⟨o, s _ _ h⟩)
theorem prep_ktp {ns : List Int} (s : Same F H) (h : prep M F H (.ktp ns) v) : ∃ a, v = .ref a ∧ SqT M.K H a (ns.map V.int) ∧ reps M F (ns.map D.int) (ns.map V.int) := by
  rcases h with h | ⟨o, a, ev, e, h⟩
  · unfold rep at h
    obtain ⟨a, h1, h2⟩ := h
    exact ⟨a, h1, itup_sq s h2, reps_kt ns⟩
  · cases o <;> cases e
theorem prep_scr {ds : List D} (s : Same F H) (h : prep M F H (.scr ds) v) : ∃ a vs, v = .ref a ∧ SqL M.K H a vs ∧ reps M F ds vs := by
  rcases h with h | ⟨o, a, ev, e, h⟩
  · unfold rep at h
    obtain ⟨a, vs, h1, h2, h3⟩ := h
    exact ⟨a, vs, h1, s.seq h2, h3⟩
  · cases o <;> cases e
theorem prep_dK {ks : List Key} {ds : List D} (s : Same F H) (h : prep M F H (.dK ks ds) v) : ∃ (a : Addr) (kvs : List (Key × V)), v = .ref a ∧ Rd H a (.dK kvs) ∧ kvs.map (·.1) = ks ∧ reps M F ds (kvs.map (·.2)) := by
  rcases h with h | ⟨o, a, ev, e, h⟩
  · unfold rep at h
    obtain ⟨a, od, vs, h1, h2, h3, h4⟩ := h
    exact ⟨a, vs, h1, .inr ⟨od, s _ _ h2⟩, h3, h4⟩
  · cases o <;> cases e
    obtain ⟨vs, h1, h2, h3⟩ := h
    exact ⟨a, vs, ev, .inl h1, h2, h3⟩
theorem prep_dT {ks : List (List Key)} {ds : List D} (s : Same F H) (h : prep M F H (.dT ks ds) v) : ∃ (a : Addr) (kvs : List (List Key × V)), v = .ref a ∧ Rd H a (.dT kvs) ∧ kvs.map (·.1) = ks ∧ reps M F ds (kvs.map (·.2)) := by
  rcases h with h | ⟨o, a, ev, e, h⟩
  · unfold rep at h
    obtain ⟨a, od, vs, h1, h2, h3, h4⟩ := h
    exact ⟨a, vs, h1, .inr ⟨od, s _ _ h2⟩, h3, h4⟩
  · cases o <;> cases e
    obtain ⟨vs, h1, h2, h3⟩ := h
    exact ⟨a, vs, ev, .inl h1, h2, h3⟩
theorem prep_obj {n : Nat} {ds : List D} (s : Same F H) (h : prep M F H (.obj n ds) v) : ∃ (a C dx : Addr) (fs : List (Str × V)), v = .ref a ∧ M.G n = some C ∧ H a = some (.ins C dx fs) ∧ fs.map (·.1) = (M.nm n).take ds.length ∧ reps M F ds (fs.map (·.2)) := by
  rcases h with h | ⟨o, a, ev, e, h⟩
  · unfold rep at h
    obtain ⟨a, C, dx, fs, h1, h2, h3, h4, h5⟩ := h
    exact ⟨a, C, dx, fs, h1, h2, s _ _ h3, h4, h5⟩
  · cases o <;> cases e
    obtain ⟨C, dx, fs, h1, h2, h3, h4⟩ := h
    exact ⟨a, C, dx, fs, ev, h1, h2, h3, h4⟩
end
@[simp] theorem rep_int' {M : Gm} {F : Hp} (i : Int) : rep M F (.int i) (.int i) := by unfold rep; rfl
@[simp] theorem rep_bl' {M : Gm} {F : Hp} (b : Bool) : rep M F (.bl b) (.bl b) := by unfold rep; rfl
@[simp] theorem rep_str' {M : Gm} {F : Hp} (x : Str) : rep M F (.str x) (.str x) := by unfold rep; rfl
@[simp] theorem rep_non' {M : Gm} {F : Hp} : rep M F .non .non := by unfold rep; rfl
section
variable {M : Gm} {c : Cn M} {F H : Hp} {σ : St} {δ : Sl}
theorem rr_int {i : Int} : repR c F H σ δ (.imm (.int i)) (.int i) := rep_int' (M := M) (F := F) i
theorem rr_bl {b : Bool} : repR c F H σ δ (.imm (.bl b)) (.bl b) := rep_bl' (M := M) (F := F) b
theorem rr_str {x : Str} : repR c F H σ δ (.imm (.str x)) (.str x) := rep_str' (M := M) (F := F) x
end
def OpD (M : Gm) (r : R2) (g : D → D → Option R) : Prop := ∀ (c : Cn M) (F H : Hp) (σ : St) (δ : Sl) (x y : V) (dx dy : D) (z : R) (Q : VK), Ok c F H σ δ → prep M F H dx x → prep M F H dy y → g dx dy = some z →
  (∀ v F' H', Same F F' → Ok c F' H' σ δ → repR c F' H' σ δ z v → Q v H') → r x y H Q
def gOr (g g' : D → D → Option R) : D → D → Option R := fun x y => match g x y with
  | some z => some z
  | none => g' x y
theorem OpD.or {M : Gm} {r r' : R2} {g g' : D → D → Option R} (h : OpD M r g) (h' : OpD M r' g') : OpD M (fun x y H Q => r x y H Q ∨ r' x y H Q) (gOr g g') := by
  intro c F H σ δ x y dx dy z Q ok px py e q
  unfold gOr at e
  cases e1 : g dx dy with
  | some w =>
    rw [e1] at e
    cases e
    exact .inl (h c F H σ δ x y dx dy _ Q ok px py e1 q)
  | none =>
    rw [e1] at e
    exact .inr (h' c F H σ δ x y dx dy z Q ok px py e q)
def gI (C : Int → Int → Bool) (g : Int → Int → Int) : D → D → Option R
  | .int i, .int j => if C i j then some (.imm (.int (g i j))) else none
  | _, _ => none
def gB (g : Int → Int → Bool) : D → D → Option R
  | .int i, .int j => some (.imm (.bl (g i j)))
  | _, _ => none
theorem od_I {M : Gm} {C : Int → Int → Prop} {Cb : Int → Int → Bool} {g : Int → Int → Int} (hC : ∀ i j, Cb i j = true → C i j) : OpD M (rI C fun i j => .int (g i j)) (gI Cb g) := by
  intro c F H σ δ x y dx dy z Q ok px py e q
  unfold gI at e
  split at e
  · rename_i i j
    split at e
    · rename_i hc
      cases e
      exact ⟨i, j, prep_int px, prep_int py, hC i j hc, q _ F H (Same.refl _) ok rr_int⟩
    · cases e
  · cases e
theorem od_I0 {M : Gm} {g : Int → Int → Int} : OpD M (rI0 fun i j => .int (g i j)) (gI (fun _ _ => true) g) := by
  intro c F H σ δ x y dx dy z Q ok px py e q
  unfold gI at e
  split at e
  · rename_i i j
    cases e
    exact ⟨i, j, prep_int px, prep_int py, q _ F H (Same.refl _) ok rr_int⟩
  · cases e
theorem od_B {M : Gm} {g : Int → Int → Bool} : OpD M (rI0 fun i j => .bl (g i j)) (gB g) := by
  intro c F H σ δ x y dx dy z Q ok px py e q
  unfold gB at e
  split at e
  · rename_i i j
    cases e
    exact ⟨i, j, prep_int px, prep_int py, q _ F H (Same.refl _) ok rr_bl⟩
  · cases e
def fBin (g : D → D → Option R) (fa fb : FD) : FE := fun δ => (fa δ).bind fun x δ1 => (fb δ1).bind fun y δ2 => match g x y with
  | some z => .ok z δ2
  | none => .bad
def there (δ : Sl) (i : Nat) : Bool := match δ[i]? with
  | some (some _) => true
  | _ => false
def fBinV (g : D → D → Option R) (i : Nat) (fb : FD) : FE := fun δ => if there δ i then (fb δ).bind fun y δ1 => (vP i δ1).bind fun x δ2 => match g x y with
  | some z => .ok z δ2
  | none => .bad
  else .bad
section
variable {M : Gm} {c : Cn M} {W : WX} {X : Cx} {a b : Expr} {pos : Pos} {fa fb : FD} {r : R2} {g : D → D → Option R}
theorem bin_of (hd : OpD M r g) {F H : Hp} {σ : St} {δ : Sl} {x y : V} {dx dy : D} {Q : VK} (ok : Ok c F H σ δ) (px : prep M F H dx x) (py : prep M F H dy y)
    (post : Post c W F σ (ρR c σ) (match g dx dy with | some z => .ok z δ | none => .bad) Q) : r x y H Q := by
  cases e : g dx dy with
  | none => rw [e] at post; exact post.elim
  | some z => rw [e] at post; exact hd c F H σ δ x y dx dy z Q ok px py e post
theorem d_op {e : Expr} (mk : ∀ {ta tb : TE}, PE X a ta → PE X b tb → PE X e (tOp r ta tb)) (hd : OpD M r g) (ha : DI M W X a fa) (hb : DP M W X b fb) : DE M W X e (fBin g fa fb) := by
  obtain ⟨ta, pa, ha⟩ := ha
  obtain ⟨tb, pb, hb⟩ := hb
  refine ⟨_, mk pa pb, fun c F H σ δ Q ok post => ha c F H σ δ _ ok (Post.bind post fun dx δ1 x F1 H1 _ s1 ok1 rx post => hb c F1 H1 σ δ1 _ ok1 (Post.bind post fun dy δ2 y F2 H2 _ s2 ok2 ry post => ?_))⟩
  exact bin_of hd ok2 (.inl (rep_mono s2 _ _ rx)) ry post
theorem vP_run {i : Nat} {F H : Hp} {σ : St} {δ : Sl} {α β : Type} {k : D → Sl → Res α} {ρ : Hp → Hp → Sl → α → β → Prop} {Q : β → Hp → Prop} {P : Prop} (ok : Ok c F H σ δ) {v : V} (e1 : σ[i]? = some (some v))
    (post : Post c W F σ ρ ((vP i δ).bind k) Q) (h : ∀ d, vP i δ = .ok d δ → prep M F H d v → Post c W F σ ρ (k d δ) Q → P) : P := by
  unfold vP at post h
  split at post
  · rename_i d q
    obtain ⟨v', e2, e3⟩ := ok.slot i _ q
    rw [e1] at e2; cases e2
    exact h d (by rw [q]) (.inl e3) post
  · rename_i o q
    obtain ⟨v', e2, a, rfl, h1, h2, h3⟩ := ok.slot i _ q
    rw [e1] at e2; cases e2
    exact h o.toD (by rw [q]) (.inr ⟨o, a, rfl, rfl, h3⟩) post
  · rename_i o q
    obtain ⟨v', e2, a, rfl, h1, h2, h3⟩ := ok.slot i _ q
    rw [e1] at e2; cases e2
    exact h o.toD (by rw [q]) (.inr ⟨o, a, rfl, rfl, h3⟩) post
  · exact post.elim
theorem there_v {F H : Hp} {σ : St} {δ : Sl} {i : Nat} (ok : Ok c F H σ δ) (h : there δ i = true) : ∃ v, σ[i]? = some (some v) := by
  unfold there at h
  split at h
  · rename_i r q
    obtain ⟨v, e, _⟩ := ok.slot i r q
    exact ⟨v, e⟩
  · cases h
theorem d_opV {e : Expr} {i : Nat} (mk : ∀ {ta tb : TE}, PE X a ta → PE X b tb → PE X e (tOp r ta tb)) (hd : OpD M r g) (ha : PE X a (tVar i)) (hb : DP M W X b fb) : DE M W X e (fBinV g i fb) := by
  obtain ⟨tb, pb, hb⟩ := hb
  refine ⟨_, mk ha pb, fun c F H σ δ Q ok post => ?_⟩
  unfold fBinV at post
  by_cases ht : there δ i = true
  · rw [if_pos ht] at post
    obtain ⟨v, e1⟩ := there_v ok ht
    refine ⟨v, e1, hb c F H σ δ _ ok (Post.bind post fun dy δ2 y F2 H2 _ s2 ok2 ry post => ?_)⟩
    exact vP_run ok2 e1 post fun dx _ px post => bin_of hd ok2 px ry post
  · rw [if_neg ht] at post
    exact post.elim
end
def CMulB (i j : Int) : Bool := gd (i.natAbs.log2 + j.natAbs.log2 < 1000000)
def CDivB (i j : Int) : Bool := gd (0 < j ∧ j.natAbs.log2 < 9000)
def CDivNB (i j : Int) : Bool := gd (j < 0 ∧ j.natAbs.log2 < 9000)
def CModB (i j : Int) : Bool := decide (0 < j)
def CPowB (i j : Int) : Bool := gd (0 ≤ j ∧ j ≤ 1000000 ∧ i.natAbs < 18446744073709551616)
section
variable {M : Gm} {c : Cn M} {W : WX} {X : Cx}
theorem od_sub : OpD M (rI0 fun i j => .int (i - j)) (gI (fun _ _ => true) fun i j => i - j) := od_I0
theorem od_mul : OpD M (rI CMulW fun i j => .int (i * j)) (gI CMulB fun i j => i * j) := od_I fun i j h => of_gd (p := (i.natAbs.log2 + j.natAbs.log2 < 1000000)) h
theorem od_fdiv : OpD M (rI CDivW fun i j => .int (i / j)) (gI CDivB fun i j => i / j) := od_I fun i j h => of_gd (p := (0 < j ∧ j.natAbs.log2 < 9000)) h
theorem od_fdivN : OpD M (rI (fun _ j => j < 0 ∧ j.natAbs.log2 < 9000) fun i j => .int (i.fdiv j)) (gI CDivNB fun i j => i.fdiv j) := od_I fun i j h => of_gd (p := (j < 0 ∧ j.natAbs.log2 < 9000)) h
theorem od_mod : OpD M (rI (fun _ j => 0 < j) fun i j => .int (i % j)) (gI CModB fun i j => i % j) := od_I fun i j h => of_decide_eq_true h
theorem od_pow : OpD M (rI CPow fun i j => .int (i ^ j.toNat)) (gI CPowB fun i j => i ^ j.toNat) := od_I fun i j h => by
  obtain ⟨h1, h2, h3⟩ := of_gd h
  exact ⟨h1, h2, by have e : (2:Nat) ^ 64 = 18446744073709551616 := by decide
                    rw [e]; exact h3⟩
end
def gCat : D → D → Option R
  | .lst xs, .lst ys => if xs.length + ys.length ≤ 16777216 then some (.own (.l (xs ++ ys))) else none
  | _, _ => none
def gRep : D → D → Option R
  | .lst xs, .int k => if gd (0 ≤ k ∧ k < 9223372036854775808 ∧ xs.length * k.toNat ≤ 16777216) then some (.own (.l ((List.replicate k.toNat xs).flatten))) else none
  | _, _ => none
def gCatS : D → D → Option R
  | .str x, .str y => if x.length + y.length ≤ 16777216 then some (.imm (.str (x ++ y))) else none
  | _, _ => none
theorem reps_rep {M : Gm} {F : Hp} {ds : List D} {vs : List V} (h : reps M F ds vs) : ∀ n : Nat, reps M F (List.replicate n ds).flatten (List.replicate n vs).flatten
  | 0 => by simp [reps]
  | n + 1 => by
    rw [List.replicate_succ, List.replicate_succ, List.flatten_cons, List.flatten_cons]
    exact reps_append h (reps_rep h n)
section
variable {M : Gm} {c : Cn M} {W : WX} {X : Cx}
theorem new_list {F H : Hp} {σ : St} {δ : Sl} (ok : Ok c F H σ δ) {p : Addr} (hp : H p = none) {ds : List D} {vs : List V} (r : reps M F ds vs) : Ok c F (upd H p (.lst vs)) σ δ ∧ repR c F (upd H p (.lst vs)) σ δ (.own (.l ds)) (.ref p) :=
  ⟨ok.alloc hp, ok.made hp ⟨vs, upd_same, r⟩⟩
theorem od_cat : OpD M rCat gCat := by
  intro c F H σ δ x y dx dy z Q ok px py e q
  unfold gCat at e
  split at e
  · rename_i xs ys
    split at e
    · rename_i hl
      cases e
      obtain ⟨a, vs, h1, h2, h3⟩ := prep_lst ok.same px
      obtain ⟨b, ws, k1, k2, k3⟩ := prep_lst ok.same py
      refine ⟨a, b, vs, ws, h1, k1, h2, k2, ?_, fun p hp => ?_⟩
      · rw [reps_length h3, reps_length k3, sizeLine_eq]; exact hl
      · obtain ⟨o1, o2⟩ := new_list ok hp (reps_append h3 k3)
        exact q _ F _ (Same.refl _) o1 o2
    · cases e
  · cases e
theorem od_rep : OpD M rRep gRep := by
  intro c F H σ δ x y dx dy z Q ok px py e q
  unfold gRep at e
  split at e
  · rename_i xs k
    split at e
    · rename_i hl
      cases e
      obtain ⟨h0, hk, hz⟩ := of_gd hl
      obtain ⟨a, vs, h1, h2, h3⟩ := prep_lst ok.same px
      refine ⟨a, k, vs, h1, prep_int py, h2, by omega, by omega, ?_, fun p hp => ?_⟩
      · rw [reps_length h3, sizeLine_eq]; exact hz
      · obtain ⟨o1, o2⟩ := new_list ok hp (reps_rep h3 k.toNat)
        exact q _ F _ (Same.refl _) o1 o2
    · cases e
  · cases e
theorem od_catS : OpD M (fun x y H Q => ∃ i j, x = .str i ∧ y = .str j ∧ i.length + j.length ≤ sizeLine ∧ Q (.str (i ++ j)) H) gCatS := by
  intro c F H σ δ x y dx dy z Q ok px py e q
  unfold gCatS at e
  split at e
  · rename_i i j
    split at e
    · rename_i hl
      cases e
      exact ⟨i, j, prep_str px, prep_str py, by rw [sizeLine_eq]; exact hl, q _ F H (Same.refl _) ok rr_str⟩
    · cases e
  · cases e
end
end
end TS

namespace TS
open PySem L2
noncomputable section
mutual
def toP : D → Option PyData
  | .non => some .none
  | .bl b => some (.bool b)
  | .int i => some (.int i)
  | .str x => some (.str x)
  | .lst ds => (toPs ds).map .list
  | .tup ds => (toPs ds).map .tuple
  | .ktp ns => some (.tuple (ns.map PyData.int))
  | _ => none
def toPs : List D → Option (List PyData)
  | [] => some []
  | d :: ds => match toP d, toPs ds with
    | some p, some ps => some (p :: ps)
    | _, _ => none
end
section
variable {M : Gm} {F H : Hp}
mutual
theorem rep_dp (s : Same F H) : ∀ (d : D) (v : V) (p : PyData), rep M F d v → toP d = some p → Dp M.K H v p
  | .non, v, p, h, e => by unfold rep at h; unfold toP at e; cases e; subst h; exact .non
  | .bl b, v, p, h, e => by unfold rep at h; unfold toP at e; cases e; subst h; exact .bl b
  | .int b, v, p, h, e => by unfold rep at h; unfold toP at e; cases e; subst h; exact .int b
  | .str b, v, p, h, e => by unfold rep at h; unfold toP at e; cases e; subst h; exact .str b
  | .lst ds, v, p, h, e => by
    unfold rep at h
    unfold toP at e
    obtain ⟨ps, e1, rfl⟩ := Option.map_eq_some_iff.mp e
    obtain ⟨a, vs, rfl, h2, h3⟩ := h
    exact .lst (SqL.of (s _ _ h2)) (reps_dp s ds vs ps h3 e1)
  | .tup ds, v, p, h, e => by
    unfold rep at h
    unfold toP at e
    obtain ⟨ps, e1, rfl⟩ := Option.map_eq_some_iff.mp e
    obtain ⟨a, vs, rfl, h2, h3⟩ := h
    exact .tup (SqT.of (s _ _ h2)) (reps_dp s ds vs ps h3 e1)
  | .scr ds, v, p, h, e => by unfold toP at e; cases e
  | .dK ks ds, v, p, h, e => by unfold toP at e; cases e
  | .dT ks ds, v, p, h, e => by unfold toP at e; cases e
  | .obj c ds, v, p, h, e => by unfold toP at e; cases e
  | .cls c, v, p, h, e => by unfold toP at e; cases e
  | .lam, v, p, h, e => by unfold toP at e; cases e
  | .ktp ns, v, p, h, e => by
    unfold rep at h
    unfold toP at e
    cases e
    obtain ⟨a, rfl, h2⟩ := h
    refine .tup (itup_sq s h2) ?_
    clear h2
    induction ns with
    | nil => exact .nil
    | cons i ns ih => exact .cons (.int i) ih
theorem reps_dp (s : Same F H) : ∀ (ds : List D) (vs : List V) (ps : List PyData), reps M F ds vs → toPs ds = some ps → DpAll M.K H vs ps
  | [], vs, ps, h, e => by unfold reps at h; unfold toPs at e; cases e; subst h; exact .nil
  | d :: ds, vs, ps, h, e => by
    unfold reps at h
    obtain ⟨v, r, rfl, h2, h3⟩ := h
    unfold toPs at e
    split at e
    · rename_i p qs e1 e2
      cases e
      exact .cons (rep_dp s d v p h2 e1) (reps_dp s ds r qs h3 e2)
    · cases e
end
end
theorem prep_dp {M : Gm} {F H : Hp} {d : D} {v : V} {p : PyData} (s : Same F H) (h : prep M F H d v) (e : toP d = some p) : Dp M.K H v p := by
  rcases h with h | ⟨o, a, rfl, rfl, h⟩
  · exact rep_dp s d v p h e
  · cases o with
    | l ds =>
      obtain ⟨vs, h1, h2⟩ := h
      unfold OB.toD toP at e
      obtain ⟨ps, e1, rfl⟩ := Option.map_eq_some_iff.mp e
      exact .lst (SqL.of h1) (reps_dp s ds vs ps h2 e1)
    | dK ks ds => unfold OB.toD toP at e; cases e
    | dT ks ds => unfold OB.toD toP at e; cases e
    | o n ds => unfold OB.toD toP at e; cases e
def gEq : D → D → Option R := fun x y => match toP x, toP y with
  | some p, some q => if SeqAt.shaped p && SeqAt.shaped q then some (.imm (.bl (PyData.eqv p q))) else none
  | _, _ => none
def gNe : D → D → Option R := fun x y => match toP x, toP y with
  | some p, some q => if SeqAt.shaped p && SeqAt.shaped q then some (.imm (.bl (!PyData.eqv p q))) else none
  | _, _ => none
theorem od_eq {M : Gm} : OpD M (rEqD M.K) gEq := by
  intro c F H σ δ x y dx dy z Q ok px py e q
  unfold gEq at e
  split at e
  · rename_i p p' e1 e2
    split at e
    · rename_i hs
      cases e
      rw [Bool.and_eq_true] at hs
      exact ⟨p, p', prep_dp ok.same px e1, prep_dp ok.same py e2, hs.1, hs.2, q _ F H (Same.refl _) ok rr_bl⟩
    · cases e
  · cases e
theorem od_ne {M : Gm} : OpD M (rNeD M.K) gNe := by
  intro c F H σ δ x y dx dy z Q ok px py e q
  unfold gNe at e
  split at e
  · rename_i p p' e1 e2
    split at e
    · rename_i hs
      cases e
      rw [Bool.and_eq_true] at hs
      exact ⟨p, p', prep_dp ok.same px e1, prep_dp ok.same py e2, hs.1, hs.2, q _ F H (Same.refl _) ok rr_bl⟩
    · cases e
  · cases e
def gNotN : D → D → Option R
  | .non, .non => some (.imm (.bl false))
  | _, .non => some (.imm (.bl true))
  | _, _ => none
theorem prep_ne_non {M : Gm} {F H : Hp} {d : D} {v : V} (h : prep M F H d v) (hd : d ≠ .non) : v ≠ .non := by
  rcases h with h | ⟨o, a, rfl, _, _⟩
  · cases d <;> unfold rep at h <;> first | exact absurd rfl hd | (rintro rfl; cases h; done) | (rintro rfl; obtain ⟨_, _, h, _⟩ := h; cases h; done) | (rintro rfl; obtain ⟨_, _, _, _, h, _⟩ := h; cases h; done) | (rintro rfl; obtain ⟨_, _, _, h, _⟩ := h; cases h; done) | (rintro rfl; obtain ⟨_, _, h⟩ := h; cases h; done) | (rintro rfl; obtain ⟨_, h, _⟩ := h; cases h; done) | (rintro rfl; obtain ⟨_, h⟩ := M.lm.rf h; cases h; done)
  · intro h; cases h
theorem od_notN {M : Gm} : OpD M (fun x y H Q => y = .non ∧ Q (.bl (!decide (x = .non))) H) gNotN := by
  intro c F H σ δ x y dx dy z Q ok px py e q
  unfold gNotN at e
  split at e
  · cases e
    have h1 := prep_non px
    subst h1
    exact ⟨prep_non py, q _ F H (Same.refl _) ok rr_bl⟩
  · rename_i hn
    cases e
    refine ⟨prep_non py, ?_⟩
    rw [decide_eq_false (prep_ne_non px hn)]
    exact q _ F H (Same.refl _) ok rr_bl
  · cases e
def keyOf : D → Option Key
  | .int i => some (.inl i)
  | .str x => some (.inr x)
  | _ => none
def keysOf : List D → Option (List Key)
  | [] => some []
  | d :: ds => match keyOf d, keysOf ds with
    | some k, some ks => some (k :: ks)
    | _, _ => none
def lookD {κ : Type} [DecidableEq κ] : List κ → List D → κ → Option D
  | k' :: ks, d :: ds, k => if k' = k then some d else lookD ks ds k
  | _, _, _ => none
theorem keyOf_v {M : Gm} {F H : Hp} {d : D} {v : V} {k : Key} (h : prep M F H d v) (e : keyOf d = some k) : v = kV k := by
  cases d <;> simp [keyOf] at e
  · subst e; exact prep_int h
  · subst e; exact prep_str h
theorem lookD_val {M : Gm} {F : Hp} {κ : Type} [DecidableEq κ] : ∀ {kvs : List (κ × V)} {ds : List D} (k : κ), reps M F ds (kvs.map (·.2)) → (∀ d, lookD (kvs.map (·.1)) ds k = some d → ∃ v, valV kvs k = some v ∧ rep M F d v) ∧ (lookD (kvs.map (·.1)) ds k = none → valV kvs k = none)
  | [], ds, k, h => by
    constructor
    · intro d e; simp [lookD] at e
    · intro _; rfl
  | p :: kvs, ds, k, h => by
    cases ds with
    | nil => unfold reps at h; cases h
    | cons d ds =>
      rw [List.map_cons, reps_cons_iff] at h
      obtain ⟨h1, h2⟩ := h
      have ih := lookD_val k h2
      unfold valV at ih ⊢
      by_cases e : p.1 = k
      · constructor
        · intro d' e'
          simp only [List.map_cons, lookD, if_pos e] at e'
          cases e'
          exact ⟨p.2, by simp [List.find?_cons, e], h1⟩
        · intro e'
          simp only [List.map_cons, lookD, if_pos e] at e'
          cases e'
      · constructor
        · intro d' e'
          simp only [List.map_cons, lookD, if_neg e] at e'
          obtain ⟨v, q1, q2⟩ := ih.1 d' e'
          exact ⟨v, by simp only [List.find?_cons, decide_eq_false e]; exact q1, q2⟩
        · intro e'
          simp only [List.map_cons, lookD, if_neg e] at e'
          simp only [List.find?_cons, decide_eq_false e]
          exact ih.2 e'
theorem atI_reps {M : Gm} {F : Hp} {ds : List D} {vs : List V} {i : Int} {d : D} (h : reps M F ds vs) (e : atI ds i = some d) : ∃ v, atI vs i = some v ∧ rep M F d v := by
  unfold atI at e ⊢
  rw [reps_length h]
  cases q : ixN ds.length i with
  | none => rw [q] at e; cases e
  | some j =>
    rw [q] at e
    exact reps_get h e
theorem keysOf_v {M : Gm} {F : Hp} : ∀ {ds : List D} {vs : List V} {ks : List Key}, reps M F ds vs → keysOf ds = some ks → vs = ks.map kV
  | [], vs, ks, h, e => by unfold reps at h; unfold keysOf at e; cases e; subst h; rfl
  | d :: ds, vs, ks, h, e => by
    unfold reps at h
    obtain ⟨v, r, rfl, h2, h3⟩ := h
    unfold keysOf at e
    split at e
    · rename_i k ks' e1 e2
      cases e
      rw [keyOf_v (M := M) (F := F) (H := F) (.inl h2) e1, keysOf_v h3 e2]; rfl
    · cases e
theorem prep_tupK {M : Gm} {F H : Hp} {v : V} {ds : List D} {ks : List Key} (s : Same F H) (h : prep M F H (.tup ds) v) (e : keysOf ds = some ks) : ∃ b, v = .ref b ∧ H b = some (.tup (ks.map kV)) := by
  rcases h with h | ⟨o, a, ev, e, h⟩
  · unfold rep at h
    obtain ⟨a, vs, h1, h2, h3⟩ := h
    have := keysOf_v h3 e
    subst this
    exact ⟨a, h1, s _ _ h2⟩
  · cases o <;> cases e
def gIx : D → D → Option R
  | .dT ks ds, .tup kds => (keysOf kds).bind fun k => (lookD ks ds k).map .imm
  | .lst xs, .int i => (atI xs i).map .imm
  | .tup xs, .int i => (atI xs i).map .imm
  | .ktp ns, .int i => (atI (ns.map D.int) i).map .imm
  | .scr xs, .int i => (atI xs i).map .imm
  | .str z, .int i => if z.length ≤ 16777216 then (atI z.cps.toList i).map (fun c => .imm (.str ⟨#[c]⟩)) else none
  | .dK ks ds, k => (keyOf k).bind fun k => (lookD ks ds k).map .imm
  | _, _ => none
def rIxD : R2 := fun x y H Q => ∃ a v, x = .ref a ∧ DGet H a y (some v) ∧ Q v H
theorem ix_dict {X : Cx} (hu : X.A.units + 1 < cLine) : IxR X rIxD := by
  intro value slice pins s σ H x y v u Q I rx ry h hs
  obtain ⟨a, z, rfl, g, q⟩ := h
  cases rx
  exact PyProof.Rows.tail_any (dict_typeIs I g) PySem.F.slot_dict_getitem.lookup (d_getItem hu I g ry fun w' s3 I3 rw' => ⟨z, H, I3, rw', q⟩) hs
def rIxAll (K : PySem.W.Frag) : R2 := fun x y H Q => rIx K x y H Q ∨ rIxD x y H Q
theorem ix_all {X : Cx} {M : Gm} (hK : X.K = M.K) (hu : X.A.units + 1 < cLine) : IxR X (rIxAll M.K) := by rw [← hK]; exact ix_seq.or (ix_dict hu)
theorem od_ix {M : Gm} : OpD M (rIxAll M.K) gIx := by
  intro c F H σ δ x y dx dy z Q ok px py e q
  unfold gIx at e
  split at e
  · rename_i ks ds kds
    obtain ⟨kk, e1, e2⟩ := Option.bind_eq_some_iff.mp e
    obtain ⟨d, e3, rfl⟩ := Option.map_eq_some_iff.mp e2
    obtain ⟨a, kvs, rfl, h2, h3, h4⟩ := prep_dT ok.same px
    obtain ⟨b, rfl, hb⟩ := prep_tupK ok.same py e1
    subst h3
    obtain ⟨v, k1, k2⟩ := (lookD_val kk h4).1 d e3
    refine .inr ⟨a, v, rfl, ?_, q _ F H (Same.refl _) ok k2⟩
    rw [← k1]
    exact .inr ⟨_, _, _, h2, rfl, hb, rfl⟩
  · rename_i xs i
    obtain ⟨d, e1, rfl⟩ := Option.map_eq_some_iff.mp e
    obtain ⟨a, vs, rfl, h2, h3⟩ := prep_lst ok.same px
    obtain ⟨v, k1, k2⟩ := atI_reps h3 e1
    exact .inl (.inl ⟨a, vs, i, v, rfl, prep_int py, SqL.of h2, k1, q _ F H (Same.refl _) ok k2⟩)
  · rename_i xs i
    obtain ⟨d, e1, rfl⟩ := Option.map_eq_some_iff.mp e
    obtain ⟨a, vs, rfl, h2, h3⟩ := prep_tup ok.same px
    obtain ⟨v, k1, k2⟩ := atI_reps h3 e1
    exact .inl (.inr (.inl ⟨a, vs, i, v, rfl, prep_int py, h2, k1, q _ F H (Same.refl _) ok k2⟩))
  · rename_i xs i
    obtain ⟨d, e1, rfl⟩ := Option.map_eq_some_iff.mp e
    obtain ⟨a, rfl, h2, h3⟩ := prep_ktp ok.same px
    obtain ⟨v, k1, k2⟩ := atI_reps h3 e1
    exact .inl (.inr (.inl ⟨a, _, i, v, rfl, prep_int py, h2, k1, q _ F H (Same.refl _) ok k2⟩))
  · rename_i xs i
    obtain ⟨d, e1, rfl⟩ := Option.map_eq_some_iff.mp e
    obtain ⟨a, vs, rfl, h2, h3⟩ := prep_scr ok.same px
    obtain ⟨v, k1, k2⟩ := atI_reps h3 e1
    exact .inl (.inl ⟨a, vs, i, v, rfl, prep_int py, h2, k1, q _ F H (Same.refl _) ok k2⟩)
  · rename_i zz i
    split at e
    · rename_i hl
      obtain ⟨cc, e1, rfl⟩ := Option.map_eq_some_iff.mp e
      exact .inl (.inr (.inr ⟨zz, i, cc, prep_str px, prep_int py, by rw [sizeLine_eq]; exact hl, e1, q _ F H (Same.refl _) ok rr_str⟩))
    · cases e
  · rename_i ks ds k
    obtain ⟨kk, e1, e2⟩ := Option.bind_eq_some_iff.mp e
    obtain ⟨d, e3, rfl⟩ := Option.map_eq_some_iff.mp e2
    obtain ⟨a, kvs, rfl, h2, h3, h4⟩ := prep_dK ok.same px
    subst h3
    obtain ⟨v, k1, k2⟩ := (lookD_val kk h4).1 d e3
    refine .inr ⟨a, v, rfl, ?_, q _ F H (Same.refl _) ok k2⟩
    rw [keyOf_v py e1, ← k1]
    exact .inl ⟨_, _, h2, rfl, rfl⟩
  · cases e
def flatD : D → Bool
  | .non => true
  | .bl _ => true
  | .int _ => true
  | .str _ => true
  | _ => false
def eqFl : D → D → Bool
  | .non, .non => true
  | .bl a, .bl b => a == b
  | .bl a, .int b => (if a then 1 else 0) == b
  | .int a, .bl b => a == (if b then 1 else 0)
  | .int a, .int b => a == b
  | .str a, .str b => a == b
  | _, _ => false
def inD (x : D) (xs : List D) : Bool := xs.any fun y => eqFl y x
def gIn : D → D → Option R
  | x, .lst ys => if flatD x && ys.all flatD then some (.imm (.bl (inD x ys))) else none
  | x, .tup ys => if flatD x && ys.all flatD then some (.imm (.bl (inD x ys))) else none
  | x, .ktp ns => if flatD x && (ns.map D.int).all flatD then some (.imm (.bl (inD x (ns.map D.int)))) else none
  | x, .dK ks ds => (keyOf x).map fun k => .imm (.bl (lookD ks ds k).isSome)
  | .tup kds, .dT ks ds => (keysOf kds).map fun k => .imm (.bl (lookD ks ds k).isSome)
  | _, _ => none
def gNotIn : D → D → Option R
  | x, .lst ys => if flatD x && ys.all flatD then some (.imm (.bl (!inD x ys))) else none
  | x, .tup ys => if flatD x && ys.all flatD then some (.imm (.bl (!inD x ys))) else none
  | x, .ktp ns => if flatD x && (ns.map D.int).all flatD then some (.imm (.bl (!inD x (ns.map D.int)))) else none
  | x, .dK ks ds => (keyOf x).map fun k => .imm (.bl (!(lookD ks ds k).isSome))
  | .tup kds, .dT ks ds => (keysOf kds).map fun k => .imm (.bl (!(lookD ks ds k).isSome))
  | _, _ => none
def rInD (neg : Bool) : R2 := fun y x H Q => ∃ a o, x = .ref a ∧ DGet H a y o ∧ Q (.bl (if neg then !o.isSome else o.isSome)) H
theorem op_inD {X : Cx} (hu : X.A.units + 1 < cLine) : OpR X (compareOp .In) (rInD false) := by
  intro pins s σ H y x iv u Q I ry rx h
  obtain ⟨a, o, rfl, g, q⟩ := h
  obtain rfl : u = Value.ref a := rx
  exact d_in hu I g ry fun s3 I3 => ⟨.bl o.isSome, H, I3, rfl, q⟩
theorem op_notInD {X : Cx} (hu : X.A.units + 1 < cLine) : OpR X (compareOp .NotIn) (rInD true) := by
  intro pins s σ H y x iv u Q I ry rx h
  obtain ⟨a, o, rfl, g, q⟩ := h
  obtain rfl : u = Value.ref a := rx
  exact d_notIn hu I g ry fun s3 I3 => ⟨.bl (!o.isSome), H, I3, rfl, q⟩
def rInAll (K : PySem.W.Frag) (neg : Bool) : R2 := fun x y H Q => rIn K neg x y H Q ∨ rInD neg x y H Q
theorem op_inAll {X : Cx} {M : Gm} (hK : X.K = M.K) (hu : X.A.units + 1 < cLine) : OpR X (compareOp .In) (rInAll M.K false) := by rw [← hK]; exact op_in_seq.or (op_inD hu)
theorem op_notInAll {X : Cx} {M : Gm} (hK : X.K = M.K) (hu : X.A.units + 1 < cLine) : OpR X (compareOp .NotIn) (rInAll M.K true) := by rw [← hK]; exact op_notIn_seq.or (op_notInD hu)
def flV : D → V
  | .non => .non
  | .bl b => .bl b
  | .int i => .int i
  | .str x => .str x
  | _ => .non
theorem flat_v {M : Gm} {F : Hp} {d : D} {v : V} (f : flatD d = true) (h : rep M F d v) : v = flV d ∧ flatV v = true := by
  cases d <;> simp [flatD] at f <;> unfold rep at h <;> subst h <;> exact ⟨rfl, rfl⟩
theorem flats_v {M : Gm} {F : Hp} : ∀ {ds : List D} {vs : List V}, ds.all flatD = true → reps M F ds vs → vs = ds.map flV ∧ vs.all flatV = true
  | [], vs, _, h => by unfold reps at h; subst h; exact ⟨rfl, rfl⟩
  | d :: ds, vs, f, h => by
    unfold reps at h
    obtain ⟨v, r, rfl, h2, h3⟩ := h
    rw [List.all_cons, Bool.and_eq_true] at f
    obtain ⟨e1, e2⟩ := flat_v f.1 h2
    obtain ⟨e3, e4⟩ := flats_v f.2 h3
    exact ⟨by rw [e1, e3]; rfl, by rw [List.all_cons, e2, e4]; rfl⟩
theorem eqFl_v {d e : D} (f : flatD d = true) (f' : flatD e = true) : eqV (flV d) (flV e) = eqFl d e := by
  cases d <;> simp [flatD] at f <;> cases e <;> simp [flatD] at f' <;> rfl
theorem inD_v {x : D} : ∀ {ds : List D}, flatD x = true → ds.all flatD = true → inV (flV x) (ds.map flV) = inD x ds
  | [], _, _ => rfl
  | d :: ds, f, f' => by
    rw [List.all_cons, Bool.and_eq_true] at f'
    have ih := inD_v f f'.2
    unfold inV inD at ih ⊢
    rw [List.map_cons, List.any_cons, List.any_cons, eqFl_v f'.1 f, ih]
theorem flat_p {M : Gm} {F H : Hp} {d : D} {v : V} (f : flatD d = true) (h : prep M F H d v) : v = flV d ∧ flatV v = true := by
  rcases h with h | ⟨o, a, _, rfl, _⟩
  · exact flat_v f h
  · cases o <;> cases f
theorem od_in {M : Gm} (neg : Bool) {g : D → D → Option R} (hg : g = if neg then gNotIn else gIn) : OpD M (rInAll M.K neg) g := by
  intro c F H σ δ x y dx dy z Q ok px py e q
  have seq : ∀ {ys : List D} {vs : List V} {a : Addr}, y = .ref a → (SqL M.K H a vs ∨ SqT M.K H a vs) → reps M F ys vs → (flatD dx && ys.all flatD) = true → z = .imm (.bl (if neg then !inD dx ys else inD dx ys)) → rInAll M.K neg x y H Q := by
    intro ys vs a e1 e2 e3 e4 e5
    rw [Bool.and_eq_true] at e4
    obtain ⟨f1, f2⟩ := flat_p e4.1 px
    obtain ⟨f3, f4⟩ := flats_v e4.2 e3
    refine .inl ⟨a, vs, e1, e2, f2, f4, ?_⟩
    rw [f1, f3, inD_v e4.1 e4.2]
    rw [e5] at q
    exact q _ F H (Same.refl _) ok rr_bl
  have dict : ∀ {ks : List Key} {ds : List D} {k : Key}, prep M F H (.dK ks ds) y → keyOf dx = some k → z = .imm (.bl (if neg then !(lookD ks ds k).isSome else (lookD ks ds k).isSome)) → rInAll M.K neg x y H Q := by
    intro ks ds k py e1 e2
    obtain ⟨a, kvs, rfl, h2, h3, h4⟩ := prep_dK ok.same py
    subst h3
    have lk := lookD_val k h4
    refine .inr ⟨a, valV kvs k, rfl, ?_, ?_⟩
    · rw [keyOf_v px e1]; exact .inl ⟨_, _, h2, rfl, rfl⟩
    · rw [e2] at q
      have e : (valV kvs k).isSome = (lookD (kvs.map (·.1)) ds k).isSome := by
        cases l : lookD (kvs.map (·.1)) ds k with
        | none => rw [lk.2 l]; rfl
        | some d => obtain ⟨v, e, _⟩ := lk.1 d l; rw [e]; rfl
      rw [e]
      exact q _ F H (Same.refl _) ok rr_bl
  have dictT : ∀ {kds : List D} {ks : List (List Key)} {ds : List D} {k : List Key}, prep M F H (.dT ks ds) y → prep M F H (.tup kds) x → keysOf kds = some k → z = .imm (.bl (if neg then !(lookD ks ds k).isSome else (lookD ks ds k).isSome)) → rInAll M.K neg x y H Q := by
    intro kds ks ds k py px e1 e2
    obtain ⟨a, kvs, rfl, h2, h3, h4⟩ := prep_dT ok.same py
    obtain ⟨b, rfl, hb⟩ := prep_tupK ok.same px e1
    subst h3
    have lk := lookD_val k h4
    refine .inr ⟨a, valV kvs k, rfl, .inr ⟨_, _, _, h2, rfl, hb, rfl⟩, ?_⟩
    rw [e2] at q
    have e : (valV kvs k).isSome = (lookD (kvs.map (·.1)) ds k).isSome := by
      cases l : lookD (kvs.map (·.1)) ds k with
      | none => rw [lk.2 l]; rfl
      | some d => obtain ⟨v, e, _⟩ := lk.1 d l; rw [e]; rfl
    rw [e]
    exact q _ F H (Same.refl _) ok rr_bl
  subst hg
  cases neg with
  | false =>
    have e : gIn dx dy = some z := e
    unfold gIn at e
    split at e
    · split at e
      · rename_i ys hf
        cases e
        obtain ⟨a, vs, h1, h2, h3⟩ := prep_lst ok.same py
        exact seq h1 (.inl (SqL.of h2)) h3 hf rfl
      · cases e
    · split at e
      · rename_i ys hf
        cases e
        obtain ⟨a, vs, h1, h2, h3⟩ := prep_tup ok.same py
        exact seq h1 (.inr h2) h3 hf rfl
      · cases e
    · split at e
      · rename_i ys hf
        cases e
        obtain ⟨a, h1, h2, h3⟩ := prep_ktp ok.same py
        exact seq h1 (.inr h2) h3 hf rfl
      · cases e
    · obtain ⟨k, e1, e2⟩ := Option.map_eq_some_iff.mp e
      exact dict py e1 e2.symm
    · obtain ⟨k, e1, e2⟩ := Option.map_eq_some_iff.mp e
      exact dictT py px e1 e2.symm
    · cases e
  | true =>
    have e : gNotIn dx dy = some z := e
    unfold gNotIn at e
    split at e
    · split at e
      · rename_i ys hf
        cases e
        obtain ⟨a, vs, h1, h2, h3⟩ := prep_lst ok.same py
        exact seq h1 (.inl (SqL.of h2)) h3 hf rfl
      · cases e
    · split at e
      · rename_i ys hf
        cases e
        obtain ⟨a, vs, h1, h2, h3⟩ := prep_tup ok.same py
        exact seq h1 (.inr h2) h3 hf rfl
      · cases e
    · split at e
      · rename_i ys hf
        cases e
        obtain ⟨a, h1, h2, h3⟩ := prep_ktp ok.same py
        exact seq h1 (.inr h2) h3 hf rfl
      · cases e
    · obtain ⟨k, e1, e2⟩ := Option.map_eq_some_iff.mp e
      exact dict py e1 e2.symm
    · obtain ⟨k, e1, e2⟩ := Option.map_eq_some_iff.mp e
      exact dictT py px e1 e2.symm
    · cases e
end
end TS

namespace TS
open PySem L2
noncomputable section
abbrev RE (M : Gm) (W : WX) (t : TE) (f : FE) : Prop := ∀ (c : Cn M) F H σ δ Q, Ok c F H σ δ → Post c W F σ (ρR c σ) (f δ) Q → t σ H Q
def fTst (f : FE) : FT := fun δ => (f δ).bind fun r δ => match r with
  | .imm (.bl b) => .ok b δ
  | _ => .bad
section
variable {M : Gm} {c : Cn M} {W : WX} {X : Cx} {e a b : Expr} {pos : Pos}
theorem tst_of {t : TE} {f : FE} (h : RE M W t f) : ∀ (c : Cn M) F H σ δ Q, Ok c F H σ δ → Post c W F σ ρT (fTst f δ) Q → tTest t σ H Q := fun c F H σ δ Q ok post =>
  h c F H σ δ _ ok (Post.bind post fun r δ1 v F1 H1 _ s ok1 rr post => by
    split at post
    · rename_i b0 _
      have e : v = .bl b0 := by
        have z : rep M F1 (.bl b0) v := rr
        unfold rep at z; exact z
      subst e
      exact ⟨b0, rfl, post.ok ok1 rfl⟩
    · exact post.elim)
theorem dt_val {f : FE} (h : DE M W X e f) (he : ∀ whole, isTrue e X.env whole = (do let v ← whole; standAt e.pos; holding [v] (truthy v)) := by intro _; rfl) : DT M W X e (fTst f) := by
  obtain ⟨t, p, h⟩ := h
  exact ⟨_, pt_val p he, tst_of h⟩
theorem dt_op {r : R2} {g : D → D → Option R} {fa fb : FD} (mk : ∀ {ta tb : TE}, PE X a ta → PE X b tb → PT X e (tTest (tOp r ta tb))) (hd : OpD M r g) (ha : DI M W X a fa) (hb : DP M W X b fb) : DT M W X e (fTst (fBin g fa fb)) := by
  obtain ⟨ta, pa, ha⟩ := ha
  obtain ⟨tb, pb, hb⟩ := hb
  refine ⟨_, mk pa pb, tst_of fun c F H σ δ Q ok post => ha c F H σ δ _ ok (Post.bind post fun dx δ1 x F1 H1 _ s1 ok1 rx post => hb c F1 H1 σ δ1 _ ok1 (Post.bind post fun dy δ2 y F2 H2 _ s2 ok2 ry post => ?_))⟩
  exact bin_of hd ok2 (.inl (rep_mono s2 _ _ rx)) ry post
theorem dt_opV {i : Nat} {r : R2} {g : D → D → Option R} {fb : FD} (mk : ∀ {ta tb : TE}, PE X a ta → PE X b tb → PT X e (tTest (tOp r ta tb))) (hd : OpD M r g) (ha : PE X a (tVar i)) (hb : DP M W X b fb) : DT M W X e (fTst (fBinV g i fb)) := by
  obtain ⟨tb, pb, hb⟩ := hb
  refine ⟨_, mk ha pb, tst_of fun c F H σ δ Q ok post => ?_⟩
  unfold fBinV at post
  by_cases ht : there δ i = true
  · rw [if_pos ht] at post
    obtain ⟨v, e1⟩ := there_v ok ht
    refine ⟨v, e1, hb c F H σ δ _ ok (Post.bind post fun dy δ2 y F2 H2 _ s2 ok2 ry post => ?_)⟩
    exact vP_run ok2 e1 post fun dx _ px post => bin_of hd ok2 px ry post
  · rw [if_neg ht] at post
    exact post.elim
def fNot (f : FT) : FT := fun δ => (f δ).bind fun b δ => .ok (!b) δ
def fAnd (f g : FT) : FT := fun δ => (f δ).bind fun b δ => if b then g δ else .ok false δ
def fOr (f g : FT) : FT := fun δ => (f δ).bind fun b δ => if b then .ok true δ else g δ
theorem dt_not {f : FT} (h : DT M W X a f) : DT M W X (.UnaryOp .Not a pos) (fNot f) := by
  obtain ⟨t, p, h⟩ := h
  refine ⟨_, pt_not p, fun c F H σ δ Q ok post => h c F H σ δ _ ok (Post.bind post fun b δ1 k F1 H1 _ s ok1 e post => ?_)⟩
  cases (show b = k from e)
  exact post.ok ok1 rfl
theorem DW.pt {f : FT} (h : DW M W X e f) : DT M W X e f := by
  obtain ⟨t, p, h⟩ := h
  exact ⟨t, p.pt, h⟩
theorem dw_and1 {f : FT} (h : DT M W X a f) : DW M W X (.BoolOp .And [a] pos) f := by
  obtain ⟨t, p, h⟩ := h
  exact ⟨t, pw_and1 p, h⟩
theorem dw_or1 {f : FT} (h : DT M W X a f) : DW M W X (.BoolOp .Or [a] pos) f := by
  obtain ⟨t, p, h⟩ := h
  exact ⟨t, pw_or1 p, h⟩
theorem dw_and {f g : FT} {rest : List Expr} (h : DT M W X a f) (h' : DW M W X (.BoolOp .And (b :: rest) pos) g) : DW M W X (.BoolOp .And (a :: b :: rest) pos) (fAnd f g) := by
  obtain ⟨t, p, h⟩ := h
  obtain ⟨t', p', h'⟩ := h'
  refine ⟨_, pw_and p p', fun c F H σ δ Q ok post => h c F H σ δ _ ok (Post.bind post fun b δ1 k F1 H1 _ s ok1 e post => ?_)⟩
  cases (show b = k from e)
  cases b with
  | true => exact h' c F1 H1 σ δ1 Q ok1 post
  | false => exact post.ok ok1 rfl
theorem dw_or {f g : FT} {rest : List Expr} (h : DT M W X a f) (h' : DW M W X (.BoolOp .Or (b :: rest) pos) g) : DW M W X (.BoolOp .Or (a :: b :: rest) pos) (fOr f g) := by
  obtain ⟨t, p, h⟩ := h
  obtain ⟨t', p', h'⟩ := h'
  refine ⟨_, pw_or p p', fun c F H σ δ Q ok post => h c F H σ δ _ ok (Post.bind post fun b δ1 k F1 H1 _ s ok1 e post => ?_)⟩
  cases (show b = k from e)
  cases b with
  | false => exact h' c F1 H1 σ δ1 Q ok1 post
  | true => exact post.ok ok1 rfl
def fAndV (f : FD) (g : FE) : FE := fun δ => (f δ).bind fun d δ => match d with
  | .bl true => g δ
  | .bl false => .ok (.imm (.bl false)) δ
  | _ => .bad
def fOrV (f : FD) (g : FE) : FE := fun δ => (f δ).bind fun d δ => match d with
  | .bl true => .ok (.imm (.bl true)) δ
  | .bl false => g δ
  | _ => .bad
def fNotV (f : FD) : FD := fun δ => (f δ).bind fun d δ => match d with
  | .bl b => .ok (.bl (!b)) δ
  | _ => .bad
theorem de_one {op} {f : FE} (h : DE M W X a f) : DE M W X (.BoolOp op [a] pos) f := by
  obtain ⟨t, p, h⟩ := h
  exact ⟨t, pe_one p, h⟩
theorem de_and {f : FD} {g : FE} {rest : List Expr} (h : DI M W X a f) (h' : DE M W X (.BoolOp .And (b :: rest) pos) g) : DE M W X (.BoolOp .And (a :: b :: rest) pos) (fAndV f g) := by
  obtain ⟨t, p, h⟩ := h
  obtain ⟨t', p', h'⟩ := h'
  refine ⟨_, pe_and p p', fun c F H σ δ Q ok post => h c F H σ δ _ ok (Post.bind post fun d δ1 v F1 H1 _ s ok1 r post => ?_)⟩
  split at post
  · have e : v = .bl true := by unfold ρD rep at r; exact r
    subst e
    exact ⟨true, rfl, h' c F1 H1 σ δ1 Q ok1 post⟩
  · have e : v = .bl false := by unfold ρD rep at r; exact r
    subst e
    exact ⟨false, rfl, post.ok ok1 rr_bl⟩
  · exact post.elim
theorem di_not {f : FD} (h : DI M W X a f) : DI M W X (.UnaryOp .Not a pos) (fNotV f) := by
  obtain ⟨t, p, h⟩ := h
  refine ⟨_, pe_not p, fun c F H σ δ Q ok post => h c F H σ δ _ ok (Post.bind post fun d δ1 v F1 H1 _ s ok1 r post => ?_)⟩
  split at post
  · rename_i b0 _
    have e : v = .bl b0 := by unfold ρD rep at r; exact r
    subst e
    exact ⟨b0, rfl, post.ok ok1 (rep_bl' _)⟩
  · exact post.elim
def fIfE (f : FT) (g h : FE) : FE := fun δ => (f δ).bind fun b δ => if b then g δ else h δ
theorem de_if {f : FT} {g g' : FE} {t : Expr} (h : DT M W X t f) (ha : DE M W X a g) (hb : DE M W X b g') : DE M W X (.IfExp t a b pos) (fIfE f g g') := by
  obtain ⟨t, p, h⟩ := h
  obtain ⟨ta, pa, ha⟩ := ha
  obtain ⟨tb, pb, hb⟩ := hb
  refine ⟨_, pe_ifExp p pa pb, fun c F H σ δ Q ok post => h c F H σ δ _ ok (Post.bind post fun b δ1 k F1 H1 _ s ok1 e post => ?_)⟩
  cases (show b = k from e)
  cases b with
  | true => exact ha c F1 H1 σ δ1 Q ok1 post
  | false => exact hb c F1 H1 σ δ1 Q ok1 post
end
def aNil : FA := fun δ => .ok [] δ
def aCons (f : FD) (g : FA) : FA := fun δ => (f δ).bind fun d δ1 => (g δ1).bind fun ds δ2 => .ok (d :: ds) δ2
def aOne (f : FD) : FA := fun δ => (f δ).bind fun d δ1 => .ok [d] δ1
section
variable {M : Gm} {c : Cn M} {W : WX} {X : Cx} {e : Expr} {es : List Expr}
theorem da_nil : DA M W X [] aNil := ⟨_, pa_nil, fun c F H σ δ Q ok post => post.ok ok reps_nil⟩
theorem da_cons {f : FD} {g : FA} (h : DI M W X e f) (h' : DA M W X es g) (hs : starEach (e :: es) X.env = (false, eval e X.env) :: starEach es X.env := by rfl) : DA M W X (e :: es) (aCons f g) := by
  obtain ⟨t, p, h⟩ := h
  obtain ⟨t', p', h'⟩ := h'
  exact ⟨_, pa_cons p p' hs, fun c F H σ δ Q ok post => h c F H σ δ _ ok (Post.bind post fun d δ1 v F1 H1 _ s ok1 r post => h' c F1 H1 σ δ1 _ ok1 (Post.bind post fun ds δ2 vs F2 H2 _ s2 ok2 rs post => post.ok ok2 (reps_cons (rep_mono s2 _ _ r) rs)))⟩
theorem reps_paired {F H : Hp} : ∀ {ds : List D} {vs : List V}, reps M F ds vs → Paired (prep M F H) ds vs
  | [], vs, h => by unfold reps at h; subst h; exact .nil
  | d :: ds, vs, h => by
    unfold reps at h
    obtain ⟨v, r, rfl, h2, h3⟩ := h
    exact .cons (.inl h2) (reps_paired h3)
theorem DA.b {f : FA} (h : DA M W X es f) : DB M W X es f := by
  obtain ⟨t, p, h⟩ := h
  refine ⟨t, p, fun c F H σ δ Q ok post => h c F H σ δ Q ok ?_⟩
  cases q : f δ with
  | ok d δ1 => rw [q] at post; exact fun v F' H' s ok' r => post v F' H' s ok' (reps_paired r)
  | exc x δ1 => rw [q] at post; exact post
  | bad => rw [q] at post; exact post
theorem db_one {f : FD} (h : DP M W X e f) (hs : starEach (e :: []) X.env = (false, eval e X.env) :: starEach [] X.env := by rfl) : DB M W X [e] (aOne f) := by
  obtain ⟨t, p, h⟩ := h
  exact ⟨_, pa_cons p pa_nil hs, fun c F H σ δ Q ok post => h c F H σ δ _ ok (Post.bind post fun d δ1 v F1 H1 _ s ok1 r post => post.ok ok1 (.cons r .nil))⟩
end
abbrev RC := List V → Hp → VK → Prop
def CallD (M : Gm) (r : RC) (g : List D → Option R) : Prop := ∀ (c : Cn M) (F H : Hp) (σ : St) (δ : Sl) (xs : List V) (ds : List D) (z : R) (Q : VK), Ok c F H σ δ → Paired (prep M F H) ds xs → g ds = some z →
  (∀ v F' H', Same F F' → Ok c F' H' σ δ → repR c F' H' σ δ z v → Q v H') → r xs H Q
def fCal (g : List D → Option R) (fa : FA) : FE := fun δ => (fa δ).bind fun ds δ1 => match g ds with
  | some z => .ok z δ1
  | none => .bad
section
variable {M : Gm} {c : Cn M} {W : WX} {X : Cx} {e : Expr} {es : List Expr} {r : RC} {g : List D → Option R} {fa : FA}
theorem d_call (mk : ∀ {t : TA}, PA X es t → PE X e (tCB r t)) (hd : CallD M r g) (ha : DB M W X es fa) : DE M W X e (fCal g fa) := by
  obtain ⟨t, p, h⟩ := ha
  refine ⟨_, mk p, fun c F H σ δ Q ok post => h c F H σ δ _ ok (Post.bind post fun ds δ1 vs F1 H1 _ s ok1 rs post => ?_)⟩
  cases q : g ds with
  | none => rw [q] at post; exact post.elim
  | some z => rw [q] at post; exact hd c F1 H1 σ δ1 vs ds z Q ok1 rs q post
theorem CallR.or {f : Value} {r r' : RC} (h : CallR X f r) (h' : CallR X f r') : CallR X f (fun xs H Q => r xs H Q ∨ r' xs H Q) := by
  intro pins s σ H xs us Q I rs q
  rcases q with q | q
  · exact h pins s σ H xs us Q I rs q
  · exact h' pins s σ H xs us Q I rs q
def gcOr (g g' : List D → Option R) : List D → Option R := fun ds => match g ds with
  | some z => some z
  | none => g' ds
theorem CallD.or {r r' : RC} {g g' : List D → Option R} (h : CallD M r g) (h' : CallD M r' g') : CallD M (fun xs H Q => r xs H Q ∨ r' xs H Q) (gcOr g g') := by
  intro c F H σ δ xs ds z Q ok pxs e q
  unfold gcOr at e
  cases e1 : g ds with
  | some w => rw [e1] at e; cases e; exact .inl (h c F H σ δ xs ds _ Q ok pxs e1 q)
  | none => rw [e1] at e; exact .inr (h' c F H σ δ xs ds z Q ok pxs e q)
theorem p1 {F H : Hp} {d : D} {xs : List V} (h : Paired (prep M F H) [d] xs) : ∃ x, xs = [x] ∧ prep M F H d x := by
  cases h with
  | cons a b => cases b; exact ⟨_, rfl, a⟩
theorem p2 {F H : Hp} {d d' : D} {xs : List V} (h : Paired (prep M F H) [d, d'] xs) : ∃ x y, xs = [x, y] ∧ prep M F H d x ∧ prep M F H d' y := by
  cases h with
  | cons a b =>
    cases b with
    | cons a' b' => cases b'; exact ⟨_, _, rfl, a, a'⟩
def lenD : D → Option Nat
  | .lst xs => some xs.length
  | .tup xs => some xs.length
  | .ktp ns => some ns.length
  | .scr xs => some xs.length
  | .str z => if z.length ≤ 16777216 then some z.length else none
  | .dK ks ds => some ds.length
  | _ => none
def gLen : List D → Option R
  | [d] => (lenD d).map fun n => .imm (.int n)
  | _ => none
def rLenAll (K : PySem.W.Frag) : RC := fun xs H Q => (∃ x n, xs = [x] ∧ LenV K x H n ∧ Q (.int n) H) ∨ ∃ a kvs, xs = [V.ref a] ∧ Rd H a (.dK kvs) ∧ Q (.int kvs.length) H
theorem call_lenRd : CallR X (.builtin "len") (fun xs H Q => ∃ a kvs, xs = [V.ref a] ∧ Rd H a (.dK kvs) ∧ Q (.int kvs.length) H) := by
  intro pins s σ H xs us Q I r h
  obtain ⟨a, kvs, rfl, ha, q⟩ := h
  obtain ⟨u, rfl, ru⟩ := vals1 r
  cases ru
  exact d_len I ha fun t s' I' => ⟨.int kvs.length, H, I', ⟨t, rfl⟩, q⟩
theorem call_lenAll (hK : X.K = M.K) : CallR X (.builtin "len") (rLenAll M.K) := by rw [← hK]; exact CallR.or call_len call_lenRd
theorem cd_len : CallD M (rLenAll M.K) gLen := by
  intro c F H σ δ xs ds z Q ok pxs e q
  unfold gLen at e
  split at e
  · rename_i d
    obtain ⟨n, e1, rfl⟩ := Option.map_eq_some_iff.mp e
    obtain ⟨x, rfl, px⟩ := p1 pxs
    have fin := q (.int n) F H (Same.refl _) ok rr_int
    unfold lenD at e1
    split at e1
    · cases e1
      obtain ⟨a, vs, rfl, h2, h3⟩ := prep_lst ok.same px
      exact .inl ⟨_, _, rfl, .inl ⟨vs, SqL.of h2, (reps_length h3).symm⟩, fin⟩
    · cases e1
      obtain ⟨a, vs, rfl, h2, h3⟩ := prep_tup ok.same px
      exact .inl ⟨_, _, rfl, .inr ⟨vs, h2, (reps_length h3).symm⟩, fin⟩
    · cases e1
      obtain ⟨a, rfl, h2, h3⟩ := prep_ktp ok.same px
      exact .inl ⟨_, _, rfl, .inr ⟨_, h2, by rw [List.length_map]⟩, fin⟩
    · cases e1
      obtain ⟨a, vs, rfl, h2, h3⟩ := prep_scr ok.same px
      exact .inl ⟨_, _, rfl, .inl ⟨vs, h2, (reps_length h3).symm⟩, fin⟩
    · split at e1
      · rename_i hl
        cases e1
        have ex := prep_str px
        subst ex
        exact .inl ⟨_, _, rfl, ⟨by rw [sizeLine_eq]; exact hl, rfl⟩, fin⟩
      · cases e1
    · cases e1
      obtain ⟨a, kvs, rfl, h2, h3, h4⟩ := prep_dK ok.same px
      refine .inr ⟨a, kvs, rfl, h2, ?_⟩
      have := reps_length h4
      rw [List.length_map] at this
      rw [this]; exact fin
    · cases e1
  · cases e
def gAbs : List D → Option R
  | [.int i] => some (.imm (.int (if i < 0 then -i else i)))
  | _ => none
theorem cd_abs : CallD M (fun xs H Q => ∃ i, xs = [.int i] ∧ Q (.int (if i < 0 then -i else i)) H) gAbs := by
  intro c F H σ δ xs ds z Q ok pxs e q
  unfold gAbs at e
  split at e
  · cases e
    obtain ⟨x, rfl, px⟩ := p1 pxs
    cases prep_int px
    exact ⟨_, rfl, q _ F H (Same.refl _) ok rr_int⟩
  · cases e
def gMax2 : List D → Option R
  | [.int i, .int j] => some (.imm (.int (if j > i then j else i)))
  | _ => none
def gMin2 : List D → Option R
  | [.int i, .int j] => some (.imm (.int (if j < i then j else i)))
  | _ => none
theorem cd_max2 : CallD M (fun xs H Q => ∃ i j, xs = [.int i, .int j] ∧ Q (.int (if j > i then j else i)) H) gMax2 := by
  intro c F H σ δ xs ds z Q ok pxs e q
  unfold gMax2 at e
  split at e
  · cases e
    obtain ⟨x, y, rfl, px, py⟩ := p2 pxs
    cases prep_int px
    cases prep_int py
    exact ⟨_, _, rfl, q _ F H (Same.refl _) ok rr_int⟩
  · cases e
theorem cd_min2 : CallD M (fun xs H Q => ∃ i j, xs = [.int i, .int j] ∧ Q (.int (if j < i then j else i)) H) gMin2 := by
  intro c F H σ δ xs ds z Q ok pxs e q
  unfold gMin2 at e
  split at e
  · cases e
    obtain ⟨x, y, rfl, px, py⟩ := p2 pxs
    cases prep_int px
    cases prep_int py
    exact ⟨_, _, rfl, q _ F H (Same.refl _) ok rr_int⟩
  · cases e
def gInt : List D → Option R
  | [.int i] => some (.imm (.int i))
  | [.bl k] => some (.imm (.int (if k then 1 else 0)))
  | _ => none
theorem cd_int : CallD M (fun xs H Q => (∃ i, xs = [.int i] ∧ Q (.int i) H) ∨ ∃ k, xs = [.bl k] ∧ Q (.int (if k then 1 else 0)) H) gInt := by
  intro c F H σ δ xs ds z Q ok pxs e q
  unfold gInt at e
  split at e
  · cases e
    obtain ⟨x, rfl, px⟩ := p1 pxs
    cases prep_int px
    exact .inl ⟨_, rfl, q _ F H (Same.refl _) ok rr_int⟩
  · cases e
    obtain ⟨x, rfl, px⟩ := p1 pxs
    cases prep_bl px
    exact .inr ⟨_, rfl, q _ F H (Same.refl _) ok rr_int⟩
  · cases e
def gList : List D → Option R
  | [.lst xs] => some (.own (.l xs))
  | [.tup xs] => some (.own (.l xs))
  | _ => none
theorem cd_list {K : PySem.W.Frag} (hK : K = M.K) : CallD M (fun xs H Q => ∃ p ys, xs = [.ref p] ∧ (SqL K H p ys ∨ SqT K H p ys) ∧ ∀ l, H l = none → Q (.ref l) (upd H l (.lst ys))) gList := by
  intro c F H σ δ xs ds z Q ok pxs e q
  subst hK
  unfold gList at e
  split at e
  · cases e
    obtain ⟨x, rfl, px⟩ := p1 pxs
    obtain ⟨a, vs, rfl, h2, h3⟩ := prep_lst ok.same px
    refine ⟨a, vs, rfl, .inl (SqL.of h2), fun p hp => ?_⟩
    obtain ⟨o1, o2⟩ := new_list ok hp h3
    exact q _ F _ (Same.refl _) o1 o2
  · cases e
    obtain ⟨x, rfl, px⟩ := p1 pxs
    obtain ⟨a, vs, rfl, h2, h3⟩ := prep_tup ok.same px
    refine ⟨a, vs, rfl, .inr h2, fun p hp => ?_⟩
    obtain ⟨o1, o2⟩ := new_list ok hp h3
    exact q _ F _ (Same.refl _) o1 o2
  · cases e
theorem new_tup {F H : Hp} {σ : St} {δ : Sl} (ok : Ok c F H σ δ) {p : Addr} (hp : H p = none) {ds : List D} {vs : List V} (r : reps M F ds vs) : ∃ F', Same F F' ∧ Ok c F' (upd H p (.tup vs)) σ δ ∧ rep M F' (.tup ds) (.ref p) := by
  have ok1 : Ok c F (upd H p (.tup vs)) σ δ := ok.alloc hp
  have hF := ok.f hp
  have g : Same F (upd F p (.tup vs)) := fun b o e => by rw [upd_ne (ne_of_none e hF)]; exact e
  refine ⟨upd F p (.tup vs), g, ⟨fun b o e => ?_, ok.grow.trans g, fun b e1 e2 => ?_, ok1.kept, ok1.ioh, ok1.tb.frz upd_same rfl, ok.len, fun i r e => ?_, ok.dist⟩, ?_⟩
  · by_cases q : b = p
    · subst q; rw [upd_same] at e ⊢; exact e
    · rw [upd_ne q] at e ⊢; exact ok.same b o e
  · have q : b ≠ p := fun z => e1 (z ▸ ok.h0 hp)
    rw [upd_ne q]; exact ok.nofz b e1 e2
  · obtain ⟨v, e1, e2⟩ := ok1.slot i r e
    refine ⟨v, e1, ?_⟩
    cases r with
    | imm d => exact rep_mono g _ _ e2
    | own o =>
      obtain ⟨a', rfl, k1, k2, k3⟩ := e2
      have q : a' ≠ p := fun z => ok.fresh hp i _ e rfl (by rw [e1, z])
      exact ⟨a', rfl, by rw [upd_ne q]; exact k1, k2, obAt_mono g rfl k3⟩
    | brw o =>
      obtain ⟨a', rfl, k1, k2, k3⟩ := e2
      have q : a' ≠ p := fun z => ok.fresh hp i _ e rfl (by rw [e1, z])
      exact ⟨a', rfl, by rw [upd_ne q]; exact k1, k2, obAt_mono g rfl k3⟩
    | nst tp ps => exact slot_nst g e2
  · unfold rep
    exact ⟨p, vs, rfl, upd_same, reps_mono g _ _ r⟩
def gTuple : List D → Option R
  | [.lst xs] => some (.imm (.tup xs))
  | [.tup xs] => some (.imm (.tup xs))
  | _ => none
theorem cd_tuple {K : PySem.W.Frag} (hK : K = M.K) : CallD M (fun xs H Q => ∃ p ys, xs = [.ref p] ∧ ((SqL K H p ys ∧ ∀ l, H l = none → Q (.ref l) (upd H l (.tup ys))) ∨ (SqT K H p ys ∧ Q (.ref p) H))) gTuple := by
  intro c F H σ δ xs ds z Q ok pxs e q
  subst hK
  unfold gTuple at e
  split at e
  · cases e
    obtain ⟨x, rfl, px⟩ := p1 pxs
    obtain ⟨a, vs, rfl, h2, h3⟩ := prep_lst ok.same px
    refine ⟨a, vs, rfl, .inl ⟨SqL.of h2, fun p hp => ?_⟩⟩
    obtain ⟨F', g, o1, o2⟩ := new_tup ok hp h3
    exact q _ F' _ g o1 o2
  · cases e
    obtain ⟨x, rfl, px⟩ := p1 pxs
    obtain ⟨a, vs, rfl, h2, h3⟩ := prep_tup ok.same px
    refine ⟨a, vs, rfl, .inr ⟨h2, ?_⟩⟩
    rcases px with px | ⟨o, _, _, eo, _⟩
    · exact q _ F H (Same.refl _) ok px
    · cases o <;> cases eo
  · cases e
def intsD : List D → Option (List Int)
  | [] => some []
  | .int i :: r => (intsD r).map (i :: ·)
  | _ :: _ => none
def blsOf : List D → Option (List Bool)
  | [] => some []
  | .bl i :: r => (blsOf r).map (i :: ·)
  | _ :: _ => none
theorem intsD_v {M : Gm} {F : Hp} : ∀ {ds : List D} {vs : List V} {ns : List Int}, reps M F ds vs → intsD ds = some ns → vs = ns.map V.int
  | [], vs, ns, h, e => by unfold reps at h; unfold intsD at e; cases e; subst h; rfl
  | d :: ds, vs, ns, h, e => by
    unfold reps at h
    obtain ⟨v, r, rfl, h2, h3⟩ := h
    cases d <;> simp [intsD] at e
    obtain ⟨ms, e1, rfl⟩ := e
    unfold rep at h2
    subst h2
    rw [intsD_v h3 e1]; rfl
theorem blsOf_v {M : Gm} {F : Hp} : ∀ {ds : List D} {vs : List V} {ns : List Bool}, reps M F ds vs → blsOf ds = some ns → vs = ns.map V.bl
  | [], vs, ns, h, e => by unfold reps at h; unfold blsOf at e; cases e; subst h; rfl
  | d :: ds, vs, ns, h, e => by
    unfold reps at h
    obtain ⟨v, r, rfl, h2, h3⟩ := h
    cases d <;> simp [blsOf] at e
    obtain ⟨ms, e1, rfl⟩ := e
    unfold rep at h2
    subst h2
    rw [blsOf_v h3 e1]; rfl
def maxL : List Int → Int
  | [] => 0
  | [x] => x
  | x :: r => max x (maxL r)
def minL : List Int → Int
  | [] => 0
  | [x] => x
  | x :: r => min x (minL r)
theorem maxL_ok : ∀ {ns : List Int}, 0 < ns.length → maxL ns ∈ ns ∧ ∀ y ∈ ns, y ≤ maxL ns
  | [], h => by simp at h
  | [x], _ => by simp [maxL]
  | x :: y :: r, _ => by
    obtain ⟨h1, h2⟩ := maxL_ok (ns := y :: r) (by simp)
    unfold maxL
    constructor
    · rcases Int.le_total x (maxL (y :: r)) with h | h
      · rw [Int.max_eq_right h]; exact List.mem_cons_of_mem _ h1
      · rw [Int.max_eq_left h]; exact List.mem_cons_self
    · intro z hz
      rcases List.mem_cons.mp hz with rfl | hz
      · exact Int.le_max_left _ _
      · exact Int.le_trans (h2 z hz) (Int.le_max_right _ _)
theorem minL_ok : ∀ {ns : List Int}, 0 < ns.length → minL ns ∈ ns ∧ ∀ y ∈ ns, minL ns ≤ y
  | [], h => by simp at h
  | [x], _ => by simp [minL]
  | x :: y :: r, _ => by
    obtain ⟨h1, h2⟩ := minL_ok (ns := y :: r) (by simp)
    unfold minL
    constructor
    · rcases Int.le_total x (minL (y :: r)) with h | h
      · rw [Int.min_eq_left h]; exact List.mem_cons_self
      · rw [Int.min_eq_right h]; exact List.mem_cons_of_mem _ h1
    · intro z hz
      rcases List.mem_cons.mp hz with rfl | hz
      · exact Int.min_le_left _ _
      · exact Int.le_trans (Int.min_le_right _ _) (h2 z hz)
def gSum : List D → Option R
  | [.lst xs] => (intsD xs).map fun ns => .imm (.int ns.sum)
  | _ => none
def gMaxL : List D → Option R
  | [.lst xs] => (intsD xs).bind fun ns => if 0 < ns.length then some (.imm (.int (maxL ns))) else none
  | _ => none
def gMinL : List D → Option R
  | [.lst xs] => (intsD xs).bind fun ns => if 0 < ns.length then some (.imm (.int (minL ns))) else none
  | _ => none
def gAll : List D → Option R
  | [.lst xs] => (blsOf xs).map fun bs => .imm (.bl (bs.all id))
  | _ => none
theorem cd_sum {K : PySem.W.Frag} : CallD M (rSum K) gSum := by
  intro c F H σ δ xs ds z Q ok pxs e q
  unfold gSum at e
  split at e
  · obtain ⟨ns, e1, rfl⟩ := Option.map_eq_some_iff.mp e
    obtain ⟨x, rfl, px⟩ := p1 pxs
    obtain ⟨a, vs, rfl, h2, h3⟩ := prep_lst ok.same px
    have ev := intsD_v h3 e1
    subst ev
    exact ⟨a, ns, rfl, SqL.of h2, q _ F H (Same.refl _) ok rr_int⟩
  · cases e
theorem cd_maxL {K : PySem.W.Frag} : CallD M (rMax K) gMaxL := by
  intro c F H σ δ xs ds z Q ok pxs e q
  unfold gMaxL at e
  split at e
  · obtain ⟨ns, e1, e2⟩ := Option.bind_eq_some_iff.mp e
    split at e2
    · rename_i hl
      cases e2
      obtain ⟨x, rfl, px⟩ := p1 pxs
      obtain ⟨a, vs, rfl, h2, h3⟩ := prep_lst ok.same px
      have ev := intsD_v h3 e1
      subst ev
      refine ⟨a, ns, rfl, SqL.of h2, hl, fun m hm hy => ?_⟩
      obtain ⟨k1, k2⟩ := maxL_ok hl
      have em : m = maxL ns := Int.le_antisymm (k2 m hm) (hy _ k1)
      rw [em]
      exact q _ F H (Same.refl _) ok rr_int
    · cases e2
  · cases e
theorem cd_minL {K : PySem.W.Frag} : CallD M (rMin K) gMinL := by
  intro c F H σ δ xs ds z Q ok pxs e q
  unfold gMinL at e
  split at e
  · obtain ⟨ns, e1, e2⟩ := Option.bind_eq_some_iff.mp e
    split at e2
    · rename_i hl
      cases e2
      obtain ⟨x, rfl, px⟩ := p1 pxs
      obtain ⟨a, vs, rfl, h2, h3⟩ := prep_lst ok.same px
      have ev := intsD_v h3 e1
      subst ev
      refine ⟨a, ns, rfl, SqL.of h2, hl, fun m hm hy => ?_⟩
      obtain ⟨k1, k2⟩ := minL_ok hl
      have em : m = minL ns := Int.le_antisymm (hy _ k1) (k2 m hm)
      rw [em]
      exact q _ F H (Same.refl _) ok rr_int
    · cases e2
  · cases e
theorem cd_all {K : PySem.W.Frag} : CallD M (rAll K) gAll := by
  intro c F H σ δ xs ds z Q ok pxs e q
  unfold gAll at e
  split at e
  · obtain ⟨ns, e1, rfl⟩ := Option.map_eq_some_iff.mp e
    obtain ⟨x, rfl, px⟩ := p1 pxs
    obtain ⟨a, vs, rfl, h2, h3⟩ := prep_lst ok.same px
    have ev := blsOf_v h3 e1
    subst ev
    exact ⟨a, ns, rfl, SqL.of h2, q _ F H (Same.refl _) ok rr_bl⟩
  · cases e
def gDivmod : List D → Option R
  | [.int i, .int j] => if decide (0 < j ∧ j.natAbs.log2 < 9000) then some (.imm (.tup [.int (i / j), .int (i % j)])) else none
  | _ => none
end
end
end TS

namespace TS
open PySem L2
noncomputable section
def fLst (fa : FA) : FE := fun δ => (fa δ).bind fun ds δ => if ds.length ≤ 16777216 then .ok (.own (.l ds)) δ else .bad
def fTup (fa : FA) : FD := fun δ => (fa δ).bind fun ds δ => if ds.length ≤ 16777216 then .ok (.tup ds) δ else .bad
section
variable {M : Gm} {c : Cn M} {W : WX} {X : Cx} {es : List Expr} {pos : Pos} {fa : FA}
theorem de_lst (h : DA M W X es fa) : DE M W X (.List es pos) (fLst fa) := by
  obtain ⟨t, p, h⟩ := h
  refine ⟨_, pe_lst p, fun c F H σ δ Q ok post => h c F H σ δ _ ok (Post.bind post fun ds δ1 vs F1 H1 _ s ok1 rs post => ?_)⟩
  split at post
  · rename_i hl
    refine ⟨by rw [reps_length rs, sizeLine_eq]; exact hl, fun q hq => ?_⟩
    obtain ⟨o1, o2⟩ := new_list ok1 hq rs
    exact post.ok o1 o2
  · exact post.elim
theorem di_tup {x1} (h : DA M W X es fa) : DI M W X (.Tuple es x1 pos) (fTup fa) := by
  obtain ⟨t, p, h⟩ := h
  refine ⟨_, pe_tup p, fun c F H σ δ Q ok post => h c F H σ δ _ ok (Post.bind post fun ds δ1 vs F1 H1 _ s ok1 rs post => ?_)⟩
  split at post
  · rename_i hl
    refine ⟨by rw [reps_length rs, sizeLine_eq]; exact hl, fun q hq => ?_⟩
    obtain ⟨F', g, o1, o2⟩ := new_tup ok1 hq rs
    exact post _ F' _ g o1 o2
  · exact post.elim
theorem call_divmodP {X : Cx} : CallR X (.builtin "divmod") (fun xs H Q => ∃ i j, xs = [.int i, .int j] ∧ CDivP i j ∧ ∀ p, H p = none → Q (.ref p) (upd H p (.tup [.int (i / j), .int (i % j)]))) := call_divmodW
theorem cd_divmod : CallD M (fun xs H Q => ∃ i j, xs = [.int i, .int j] ∧ CDivP i j ∧ ∀ p, H p = none → Q (.ref p) (upd H p (.tup [.int (i / j), .int (i % j)]))) gDivmod := by
  intro c F H σ δ xs ds z Q ok pxs e q
  unfold gDivmod at e
  split at e
  · rename_i i j
    split at e
    · rename_i hc
      cases e
      obtain ⟨h1, h2⟩ := of_decide_eq_true hc
      obtain ⟨x, y, rfl, px, py⟩ := p2 pxs
      cases prep_int px
      cases prep_int py
      refine ⟨_, _, rfl, ⟨h1, PyProof.noPylong_of_log2 h2⟩, fun p hp => ?_⟩
      obtain ⟨F', g, o1, o2⟩ := new_tup ok hp (ds := [.int (i / j), .int (i % j)]) (reps_cons (rep_int' _) (reps_cons (rep_int' _) reps_nil))
      exact q _ F' _ g o1 o2
    · cases e
  · cases e
end
abbrev FO := Sl → Res (Option Int)
abbrev ρO : Hp → Hp → Sl → Option Int → Option Int → Prop := fun _ _ _ a b => a = b
def DO (M : Gm) (W : WX) (X : Cx) (e : Option Expr) (f : FO) : Prop := ∃ t, PO X e t ∧ ∀ (c : Cn M) F H σ δ Q, Ok c F H σ δ → Post c W F σ ρO (f δ) Q → t σ H Q
def oNone : FO := fun δ => .ok none δ
def oSome (f : FD) : FO := fun δ => (f δ).bind fun d δ => match d with
  | .int i => .ok (some i) δ
  | _ => .bad
def cutD (xs : List D) (lo hi : Option Int) : List D := (xs.drop (HT.sIx xs.length 0 lo)).take (HT.sIx xs.length xs.length hi - HT.sIx xs.length 0 lo)
def gSl : D → Option Int → Option Int → Option R
  | .lst xs, lo, hi => some (.own (.l (cutD xs lo hi)))
  | .tup xs, lo, hi => if HT.sIx xs.length 0 lo = 0 ∧ HT.sIx xs.length xs.length hi = xs.length then none else some (.imm (.tup (cutD xs lo hi)))
  | _, _, _ => none
def fSl (fe : FD) (fl fh : FO) : FE := fun δ => (fe δ).bind fun d δ => (fl δ).bind fun lo δ => (fh δ).bind fun hi δ => match gSl d lo hi with
  | some r => .ok r δ
  | none => .bad
def fSlV (i : Nat) (fl fh : FO) : FE := fun δ => if there δ i then (fl δ).bind fun lo δ => (fh δ).bind fun hi δ => (vP i δ).bind fun d δ => match gSl d lo hi with
  | some r => .ok r δ
  | none => .bad
  else .bad
section
variable {M : Gm} {c : Cn M} {W : WX} {X : Cx} {e : Expr} {lo hi : Option Expr} {pos p2 : Pos}
theorem do_none : DO M W X none oNone := ⟨_, po_none, fun c F H σ δ Q ok post => post.ok ok rfl⟩
theorem do_some {f : FD} (h : DI M W X e f) : DO M W X (some e) (oSome f) := by
  obtain ⟨t, p, h⟩ := h
  refine ⟨_, po_some p, fun c F H σ δ Q ok post => h c F H σ δ _ ok (Post.bind post fun d δ1 v F1 H1 _ s ok1 r post => ?_)⟩
  split at post
  · rename_i i _
    have ev : v = .int i := by unfold ρD rep at r; exact r
    exact ⟨i, ev, post.ok ok1 rfl⟩
  · exact post.elim
theorem sl_of (hK : X.K = M.K) {F H : Hp} {σ : St} {δ : Sl} {x : V} {d : D} {l u : Option Int} {Q : VK} (ok : Ok c F H σ δ) (px : prep M F H d x)
    (post : Post c W F σ (ρR c σ) (match gSl d l u with | some r => .ok r δ | none => .bad) Q) : rSlL X.K x l u H Q ∨ rSlT X.K x l u H Q := by
  unfold gSl at post
  split at post
  · rename_i r e
    split at e
    · cases e
      rename_i xs
      obtain ⟨a, vs, rfl, h2, h3⟩ := prep_lst ok.same px
      refine .inl ⟨a, vs, rfl, SqL.of h2, fun p hp => ?_⟩
      have : reps M F (cutD xs l u) (cutV vs l u) := by
        unfold cutD cutV
        rw [reps_length h3]
        exact reps_take _ (reps_drop _ h3)
      obtain ⟨o1, o2⟩ := new_list ok hp this
      exact post.ok o1 o2
    · split at e
      · cases e
      · rename_i xs hn
        cases e
        obtain ⟨a, vs, rfl, h2, h3⟩ := prep_tup ok.same px
        refine .inr ⟨a, vs, rfl, by rw [hK]; exact h2, by rw [reps_length h3]; exact hn, fun p hp => ?_⟩
        have : reps M F (cutD xs l u) (cutV vs l u) := by
          unfold cutD cutV
          rw [reps_length h3]
          exact reps_take _ (reps_drop _ h3)
        obtain ⟨F', g, o1, o2⟩ := new_tup ok hp this
        exact post _ F' _ g o1 o2
    · cases e
  · exact post.elim
theorem de_sl {fe : FD} {fl fh : FO} (h : DI M W X e fe) (hl : DO M W X lo fl) (hh : DO M W X hi fh) (hK : X.K = M.K := by rfl) : DE M W X (.Subscript e (.Slice lo hi none p2) pos) (fSl fe fl fh) := by
  obtain ⟨t, p, h⟩ := h
  obtain ⟨tl, pl, hl⟩ := hl
  obtain ⟨th, ph, hh⟩ := hh
  refine ⟨_, pe_slice (SlR.or sl_list sl_tup) p pl ph, fun c F H σ δ Q ok post => h c F H σ δ _ ok (Post.bind post fun d δ1 v F1 H1 _ s1 ok1 r post => hl c F1 H1 σ δ1 _ ok1 (Post.bind post fun l δ2 l' F2 H2 _ s2 ok2 el post => hh c F2 H2 σ δ2 _ ok2 (Post.bind post fun u δ3 u' F3 H3 _ s3 ok3 eu post => ?_)))⟩
  cases (show l = l' from el)
  cases (show u = u' from eu)
  exact sl_of hK ok3 (.inl (rep_mono (s2.trans s3) _ _ r)) post
def rgD (a b : Int) : List D := (List.range (b - a).toNat).map fun i => D.int (a + (i : Nat))
theorem rgD_v {M : Gm} {F : Hp} (a b : Int) : reps M F (rgD a b) (rgV a b) := by
  unfold rgD rgV
  generalize List.range (b - a).toNat = l
  induction l with
  | nil => exact reps_nil
  | cons x r ih => exact reps_cons (rep_int' _) ih
def rgOkB (a b : Int) : Bool := gd (-4611686018427387904 ≤ a ∧ a < 4611686018427387904 ∧ -4611686018427387904 ≤ b ∧ b < 4611686018427387904 ∧ (b - a).toNat ≤ 16777216)
theorem rgOkB_ok {a b : Int} (h : rgOkB a b = true) : RgOk a b := by
  obtain ⟨h1, h2, h3, h4, h5⟩ := of_gd h
  exact ⟨by omega, by omega, by omega, by omega, h5⟩
def fLRg1 (f : FD) : FE := fun δ => (f δ).bind fun d δ => match d with
  | .int n => if rgOkB 0 n then .ok (.own (.l (rgD 0 n))) δ else .bad
  | _ => .bad
theorem de_lrg1 {a : Expr} {f : FD} {p q pos q2 : Pos} (hc : X.calm = true) (hg : Gl X "list") (hm : X.mg "list" = none) (hg2 : Gl X "range") (hm2 : X.mg "range" = none) (h : DI M W X a f)
    (na : starEach [.Call (.Name "range" q) [a] [] q2] X.env = (false, eval (.Call (.Name "range" q) [a] [] q2) X.env) :: starEach [] X.env := by rfl) (na2 : starEach [a] X.env = (false, eval a X.env) :: starEach [] X.env := by rfl) :
    DE M W X (.Call (.Name "list" p) [.Call (.Name "range" q) [a] [] q2] [] pos) (fLRg1 f) := by
  obtain ⟨t, pp, h⟩ := h
  refine ⟨_, pe_listRg hc hg hm (prg_1 hg2 hm2 pp na2) na, fun c F H σ δ Q ok post => h c F H σ δ _ ok (Post.bind post fun d δ1 v F1 H1 _ s1 ok1 r post => ?_)⟩
  split at post
  · rename_i n _
    split at post
    · rename_i hk
      have ev : v = .int n := by unfold ρD rep at r; exact r
      refine ⟨n, ev, rgOkB_ok hk, fun q hq => ?_⟩
      obtain ⟨o1, o2⟩ := new_list ok1 hq (rgD_v 0 n)
      exact post.ok o1 o2
    · exact post.elim
  · exact post.elim
end
abbrev RM := V → List V → Hp → VK → Prop
def MutD (M : Gm) (r : RM) (m : List D → List D → Option (D × List D)) : Prop := ∀ (F H : Hp) (a : Addr) (vs xs : List V) (ds as : List D) (z : D) (ds' : List D) (Q : VK), Same F H → F a = none → H a = some (.lst vs) → reps M F ds vs → reps M F as xs →
  m ds as = some (z, ds') → (∀ v vs', rep M F z v → reps M F ds' vs' → Q v (upd H a (.lst vs'))) → r (.ref a) xs H Q
def getL (δ : Sl) (i : Nat) : Option (List D) := match δ[i]? with
  | some (some (.own (.l ds))) => some ds
  | some (some (.brw (.l ds))) => some ds
  | _ => none
def fMut (i : Nat) (m : List D → List D → Option (D × List D)) (fa : FA) : FD := fun δ => match getL δ i with
  | none => .bad
  | some _ => (fa δ).bind fun as δ1 => match getL δ1 i with
    | none => .bad
    | some ds => match m ds as with
      | none => .bad
      | some (z, ds') => .ok z (match δ1[i]? with
        | some (some (.own _)) => δ1.set i (some (.own (.l ds')))
        | _ => δ1.set i (some (.brw (.l ds'))))
section
variable {M : Gm} {c : Cn M} {W : WX} {X : Cx}
theorem getL_at {F H : Hp} {σ : St} {δ : Sl} {i : Nat} {ds : List D} (ok : Ok c F H σ δ) (h : getL δ i = some ds) : ∃ a vs, σ[i]? = some (some (.ref a)) ∧ F a = none ∧ H a = some (.lst vs) ∧ reps M F ds vs ∧ (δ[i]? = some (some (.own (.l ds))) ∨ δ[i]? = some (some (.brw (.l ds)))) := by
  unfold getL at h
  split at h
  · rename_i ds0 q
    cases h
    obtain ⟨v, e1, a, rfl, h1, h2, vs, h3, h4⟩ := ok.slot i _ q
    exact ⟨a, vs, e1, h1, h3, h4, .inl q⟩
  · rename_i ds0 q
    cases h
    obtain ⟨v, e1, a, rfl, h1, h2, vs, h3, h4⟩ := ok.slot i _ q
    exact ⟨a, vs, e1, h1, h3, h4, .inr q⟩
  · cases h
theorem putL_ok {F H : Hp} {σ : St} {δ : Sl} {i : Nat} {ds ds' : List D} {a : Addr} {vs' : List V} (ok : Ok c F H σ δ) (ea : σ[i]? = some (some (.ref a))) (hd : δ[i]? = some (some (.own (.l ds))) ∨ δ[i]? = some (some (.brw (.l ds)))) (r : reps M F ds' vs') :
    Ok c F (upd H a (.lst vs')) σ (match δ[i]? with
        | some (some (.own _)) => δ.set i (some (.own (.l ds')))
        | _ => δ.set i (some (.brw (.l ds')))) := by
  rcases hd with q | q
  · rw [q]
    exact ok.write (ob := .l ds) (ob' := .l ds') q (.inl ⟨rfl, rfl⟩) ea ⟨vs', upd_same, r⟩
  · rw [q]
    exact ok.write (ob := .l ds) (ob' := .l ds') q (.inr ⟨rfl, rfl⟩) ea ⟨vs', upd_same, r⟩
theorem d_mut {e o : Expr} {es : List Expr} {i : Nat} {r : RM} {m : List D → List D → Option (D × List D)} {fa : FA} (mk : ∀ {t : TA}, PA X es t → PE X e (tBM X.K "list" r (tVar i) t)) (hd : MutD M r m) (ha : DA M W X es fa) : DI M W X e (fMut i m fa) := by
  obtain ⟨t, p, h⟩ := ha
  refine ⟨_, mk p, fun c F H σ δ Q ok post => ?_⟩
  unfold fMut at post
  split at post
  · exact post.elim
  · rename_i ds0 q0
    obtain ⟨a, vs, ea, _, hl, _, _⟩ := getL_at ok q0
    refine ⟨.ref a, ea, .inl ⟨rfl, vs, SqL.of hl⟩, h c F H σ δ _ ok (Post.bind post fun as δ1 xs F1 H1 _ s1 ok1 rs post => ?_)⟩
    split at post
    · exact post.elim
    · rename_i ds q1
      obtain ⟨a', vs', ea', hf', hl', hr', hs'⟩ := getL_at ok1 q1
      rw [ea] at ea'; cases ea'
      split at post
      · exact post.elim
      · rename_i z ds' q2
        exact hd F1 H1 a vs' xs ds as z ds' Q ok1.same hf' hl' hr' rs q2 fun v vs2 rv rv2 => post.ok (putL_ok ok1 ea hs' rv2) rv
def mAppend : List D → List D → Option (D × List D)
  | ds, [d] => if ds.length < 16777216 then some (.non, ds ++ [d]) else none
  | _, _ => none
theorem md_append : MutD M rAppend mAppend := by
  intro F H a vs xs ds as z ds' Q s hf hl hr ha e q
  unfold mAppend at e
  split at e
  · split at e
    · rename_i d hlen
      cases e
      obtain ⟨v, r, rfl, h2, h3⟩ := (show ∃ v r, xs = v :: r ∧ rep M F d v ∧ reps M F [] r by unfold reps at ha; exact ha)
      unfold reps at h3
      subst h3
      exact ⟨a, vs, v, rfl, rfl, hl, by rw [reps_length hr, sizeLine_eq]; exact hlen, q _ _ rep_non' (reps_append hr (reps_cons h2 reps_nil))⟩
    · cases e
  · cases e
def mPop : List D → List D → Option (D × List D)
  | ds, [] => (ds[ds.length - 1]?).map fun d => (d, ds.dropLast)
  | ds, [.int i] => if gd (0 ≤ i ∧ i < ds.length ∧ i < 9223372036854775808) then (ds[i.toNat]?).map fun d => (d, ds.eraseIdx i.toNat) else none
  | _, _ => none
theorem reps_erase {M : Gm} {F : Hp} : ∀ {ds : List D} {vs : List V} (i : Nat), reps M F ds vs → reps M F (ds.eraseIdx i) (vs.eraseIdx i)
  | [], vs, i, h => by unfold reps at h; subst h; simp [reps]
  | d :: ds, vs, 0, h => by
    unfold reps at h
    obtain ⟨v, r, rfl, h2, h3⟩ := h
    exact h3
  | d :: ds, vs, i + 1, h => by
    unfold reps at h
    obtain ⟨v, r, rfl, h2, h3⟩ := h
    exact reps_cons h2 (reps_erase i h3)
theorem reps_dropLast {M : Gm} {F : Hp} {ds : List D} {vs : List V} (h : reps M F ds vs) : reps M F ds.dropLast vs.dropLast := by
  rw [List.dropLast_eq_take, List.dropLast_eq_take, reps_length h]
  exact reps_take _ h
def rPopAll : RM := fun x vs H Q => rPop x vs H Q ∨ rPopAt x vs H Q
theorem mt_popAll : MtM X "list.pop" rPopAll := fun pins s σ H x xs v us Q I rx rs h => h.elim (mt_pop pins s σ H x xs v us Q I rx rs) (mt_popAt pins s σ H x xs v us Q I rx rs)
theorem md_pop : MutD M rPopAll mPop := by
  intro F H a vs xs ds as z ds' Q s hf hl hr ha e q
  unfold mPop at e
  split at e
  · obtain ⟨d, e1, e2⟩ := Option.map_eq_some_iff.mp e
    cases e2
    unfold reps at ha
    subst ha
    obtain ⟨v, e3, e4⟩ := reps_get hr e1
    exact .inl ⟨a, vs, v, rfl, rfl, hl, by rw [reps_length hr]; exact e3, q _ _ e4 (reps_dropLast hr)⟩
  · rename_i i
    split at e
    · rename_i hc
      obtain ⟨h0, h1, h2⟩ := of_gd hc
      obtain ⟨d, e1, e2⟩ := Option.map_eq_some_iff.mp e
      cases e2
      obtain ⟨v, r, rfl, k2, k3⟩ := (show ∃ v r, xs = v :: r ∧ rep M F (.int i) v ∧ reps M F [] r by unfold reps at ha; exact ha)
      unfold reps at k3
      subst k3
      unfold rep at k2
      subst k2
      obtain ⟨w, e3, e4⟩ := reps_get hr e1
      refine .inr ⟨a, vs, i, i.toNat, w, rfl, rfl, hl, by omega, by omega, ?_, e3, q _ _ e4 (reps_erase _ hr)⟩
      rw [reps_length hr]
      exact seqIndex_of h0 h1
    · cases e
  · cases e
end
end
end TS

namespace TS
open PySem L2
noncomputable section
structure Room (k : Nat) (A : Around) : Prop where
  lo : L2.Room k A
  gu : A.guards = some []
theorem Room.mono {j k : Nat} {A : Around} (r : Room k A) (h : j ≤ k) : Room j A := ⟨L2.Room.mono r.lo h, r.gu⟩
theorem Room.deeper {k : Nat} {A : Around} (r : Room (k + 1) A) (env : Env) : Room k (A.deeper env) := ⟨L2.Room.deeper r.lo env, r.gu⟩
theorem Room.in1 {k : Nat} {A : Around} (r : Room (k + 1) A) : Room k A.in1 := ⟨L2.Room.in1 r.lo, r.gu⟩
theorem Room.make {k : Nat} {A : Around} (r : Room (k + 1) A) (C : Addr) (us : List Value) (kw : List (Str × Value)) : Room k (A.under (.builtin "type.__call__" ⟨.ref C :: us, kw⟩)) := by
  refine ⟨L2.Room.make r.lo C us kw, ?_⟩
  have e : (Code.builtin "type.__call__" ⟨.ref C :: us, kw⟩).isGuard = false := by
    show guardIds.contains "type.__call__" = false
    decide +kernel
  simp [Around.under, Code.guards, e, pushGuards, r.gu]
theorem Room.hd {k : Nat} {A : Around} (r : Room k A) : A.handled = none := r.lo.hd
theorem Room.depth {k : Nat} {A : Around} (r : Room k A) : A.depth < recursionLimit := L2.Room.depth r.lo
theorem Room.units {k : Nat} {A : Around} (r : Room k A) : A.units + 64 < cLine := L2.Room.units r.lo
theorem hu_of {A : Around} {k : Nat} (hr : Room k A) : A.units + 1 < cLine := L2.hu_of hr.lo
def FnR (P : Program) (w : World) (K : PySem.W.Frag) (mg : Str → Option Value) (base : Heap) (CX : CXT) (k : Nat) (f : Addr) (sp : Sp) : Prop :=
  ∀ (A : Around) (outer : List Env) (s : Shared) (H : Hp) (us : List Value) (vs : List V) (Q : VK) (E : XK), Room k A → Env0 P w K mg base A outer s H → Vals vs us → sp vs H Q E → codeAny (model P w) A (.call (.ref f) ⟨us, []⟩) (CR CX outer P w H s Q E) s
structure FnOk (P : Program) (w : World) (K : PySem.W.Frag) (mg : Str → Option Value) (base : Heap) (CX : CXT) (k : Nat) (f : Addr) (fd : FuncData) (ps : List Str) (sp : Sp) : Prop where
  len : ∀ vs H Q E, sp vs H Q E → vs.length = ps.length
  run : ∀ (A : Around) (outer : List Env) (s : Shared) (H : Hp) (args : Args) (us : List Value) (vs : List V) (Q : VK) (E : XK), Room k A → Env0 P w K mg base A outer s H → BindsTo s fd args (ps.zip us) → Vals vs us → sp vs H Q E → codeAny (model P w) A (.call (.ref f) args) (CR CX outer P w H s Q E) s
section
variable {P : Program} {w : World} {K : PySem.W.Frag} {mg : Str → Option Value} {base : Heap} {CX : CXT} {j k : Nat} {f : Addr} {fd : FuncData} {ps : List Str} {sp sp' : Sp}
theorem FnR.mono (F : FnR P w K mg base CX j f sp) (h : j ≤ k) : FnR P w K mg base CX k f sp := fun A outer s H us vs Q E hr e0 => F A outer s H us vs Q E (Room.mono hr h) e0
theorem FnR.imp (F : FnR P w K mg base CX k f sp) (h : ∀ vs H Q E, sp' vs H Q E → sp vs H Q E) : FnR P w K mg base CX k f sp' := fun A outer s H us vs Q E hr e0 rv hs => F A outer s H us vs Q E hr e0 rv (h vs H Q E hs)
theorem FnOk.mono (F : FnOk P w K mg base CX j f fd ps sp) (h : j ≤ k) : FnOk P w K mg base CX k f fd ps sp where
  len := F.len
  run := fun A outer s H args us vs Q E hr => F.run A outer s H args us vs Q E (Room.mono hr h)
theorem FnOk.raw {ds : List Value} {dvs : List V} (F : FnOk P w K mg base CX k f fd ps sp) (hb : Binds K fd ps ds) (hd : Vals dvs ds) : FnR P w K mg base CX k f (fun vs H Q E => sp (vs ++ dvs) H Q E) := by
  intro A outer s H us vs Q E hr e0 rv hs
  have rr := rv.append hd
  have lr : (us ++ ds).length = ps.length := rr.length.symm.trans (F.len _ _ _ _ hs)
  have kin : K.In s.heap := e0.mod.kin.keeps fun b o e => (e0.bs b o e).1
  exact F.run A outer s H ⟨us, []⟩ (us ++ ds) (vs ++ dvs) Q E hr e0 (hb s us kin lr) rr hs
def CodeAt (K : PySem.W.Frag) (f : Addr) (x qual : Str) (params : Arguments) (body : List Stmt) (scope : Scope) (cdv : Value) : Prop := ∃ (oc : Value) (od : Option Addr) (dV kV doc pm ct : Value) (an : Option Addr) (osl : Array (Option Value)), K.lookup f = some ⟨oc, od, .func (PySem.W.fnOf x qual params body scope dV kV doc pm an cdv ct), osl⟩
theorem FnOk.ofC {x qual : Str} {params : Arguments} {body : List Stmt} {scope : Scope} {dvs : List V} {kws : List (Str × V)} {N : List Str} (F : FunD K x qual params body scope dvs kws f fd) (S : FnScope N ps scope) (len : ∀ vs H Q E, sp vs H Q E → vs.length = ps.length)
    (hb : ∀ (cdv : Value), CodeAt K f x qual params body scope cdv → ∀ (A : Around) (outer : List Env) (s : Shared) (H : Hp) (vs : List V) (Q : VK) (E : XK), Room k (A.deeper (PyProof.Rows.envOfC qual scope s.heap.objs.size f cdv)) → sp vs H Q E →
      ∃ t, PSs (cxOf CX P w K mg base N qual scope f cdv A outer s H E) body t ∧ t { rt := Q, nx := fun _ H' => Q .non H' } (start N vs) H) : FnOk P w K mg base CX (k + 1) f fd ps sp := by
  obtain ⟨oc, od, dV, kV, doc, pm, an, cdv, ct, osl, rfl, lk, hcd, _, _⟩ := F.ex
  refine ⟨len, ?_⟩
  intro A outer s H args us vs Q E hr e0 hbn rv hs
  have kin : K.In s.heap := e0.mod.kin.keeps fun b o e => (e0.bs b o e).1
  have nl : s.heap.NoLimit := e0.mod.nolimit.keeps fun b o e => (e0.bs b o e).1
  have kinds : ∀ y ∈ ps.zip us, scope.names.lookup y.1 = some .local ∨ (scope.names.lookup y.1 = some .cell ∧ ((cellsFrom (s.heap.objs.size + 1) scope.names []).lookup y.1).isSome = true) := by
    rintro ⟨n, v⟩ hy
    have := S.par n (List.of_mem_zip hy).1
    exact this.elim Or.inl fun q => Or.inr ⟨q, PySem.W.cellsFrom_some _ _ _ (Or.inl q)⟩
  refine codeAny_call_function hr.depth (kin _ _ lk) rfl S.co S.gen rfl (PySem.W.codeRec_of kin hcd) (hbn _ _ _ _ (PySem.wpAny_newFunctionEnv_cells S.kind kinds ?_))
  rintro env rfl s1 x1
  refine ⟨nl.keeps x1.toInCall.keep, codeAny_func ?_⟩
  obtain ⟨t, pt, ht⟩ := hb cdv ⟨oc, od, dV, kV, doc, pm, ct, an, osl, lk⟩ A outer s H vs Q E (Room.deeper hr _) hs
  have I1 := inv_start (CX := CX) (E := E) S hr.hd e0 (len _ _ _ _ hs) rv x1
  refine wpAny_mono (pt.run [] s1 _ H _ I1 ht) (fun fl s2 z => ?_) fun _ _ z => z
  cases fl with
  | ret u => obtain ⟨v, σ2, H2, J, ru, q⟩ := z; exact ⟨v, H2, J.os, J.bare, J.base, J.hok, ru, q⟩
  | next => obtain ⟨σ2, H2, J, q⟩ := z; exact ⟨V.non, H2, J.os, J.bare, J.base, J.hok, rfl, q⟩
  | brk => obtain ⟨_, _, _, q⟩ := z; exact q.elim
  | cont => obtain ⟨_, _, _, q⟩ := z; exact q.elim
theorem FnOk.of {x qual : Str} {params : Arguments} {body : List Stmt} {scope : Scope} {dvs : List V} {kws : List (Str × V)} {N : List Str} (F : FunD K x qual params body scope dvs kws f fd) (S : FnScope N ps scope) (len : ∀ vs H Q E, sp vs H Q E → vs.length = ps.length)
    (hb : ∀ (cdv : Value) (A : Around) (outer : List Env) (s : Shared) (H : Hp) (vs : List V) (Q : VK) (E : XK), Room k (A.deeper (PyProof.Rows.envOfC qual scope s.heap.objs.size f cdv)) → sp vs H Q E →
      ∃ t, PSs (cxOf CX P w K mg base N qual scope f cdv A outer s H E) body t ∧ t { rt := Q, nx := fun _ H' => Q .non H' } (start N vs) H) : FnOk P w K mg base CX (k + 1) f fd ps sp := FnOk.ofC F S len fun cdv _ => hb cdv
theorem FnR.star {name qual : Str} {params : Arguments} {body : List Stmt} {scope : Scope} {dV kV doc pm cdv ct oc : Value} {an od : Option Addr} {osl : Array (Option Value)} {N : List Str} {pv : Str} (lk : K.lookup f = some ⟨oc, od, .func (PySem.W.fnOf name qual params body scope dV kV doc pm an cdv ct), osl⟩) (hcd : PySem.W.codeIn K cdv qual = true)
    (S : FnScope N (ps ++ [pv]) scope) (hCX : StX.CXUp CX)
    (hbi : ∀ us rest : List Value, us.length = ps.length → bindArgs (PySem.W.fnOf name qual params body scope dV kV doc pm an cdv ct) ⟨us ++ rest, []⟩ = (newTuple rest >>= fun t => pure (ps.zip us ++ [(pv, t)])))
    (hb : ∀ (A : Around) (outer : List Env) (s : Shared) (H : Hp) (vs : List V) (Q : VK) (E : XK), Room k (A.deeper (PyProof.Rows.envOfC qual scope s.heap.objs.size f cdv)) → sp vs H Q E →
      ∃ t, PSs (cxOf CX P w K mg base N qual scope f cdv A outer s H E) body t ∧ t { rt := Q, nx := fun _ H' => Q .non H' } (start N vs) H) :
    FnR P w K mg base CX (k + 1) f (fun vs H Q E => ∃ ws rest, vs = ws ++ rest ∧ ws.length = ps.length ∧ rest.length ≤ sizeLine ∧ ∀ p, H p = Option.none → sp (ws ++ [V.ref p]) (upd H p (.tup rest)) Q E) := by
  rintro A outer s H us _ Q E hr e0 rv ⟨ws, rest, rfl, hl, hz, hq⟩
  obtain ⟨u1, u2, rfl, r1, r2⟩ := StX.vals_split rv
  have l1 : u1.length = ps.length := r1.length.symm.trans hl
  have l2 : u2.length ≤ sizeLine := by have := r2.length; omega
  have hn : H s.heap.objs.size = Option.none := e0.hok.fresh (Nat.le_refl _)
  have kin : K.In s.heap := e0.mod.kin.keeps fun b o e => (e0.bs b o e).1
  refine codeAny_call_function hr.depth (kin _ _ lk) rfl S.co S.gen rfl (PySem.W.codeRec_of kin hcd) ?_
  rw [hbi u1 u2 l1]
  refine wpAny_bind (wpAny_newTuple (wpAny_pure ?_) l2)
  let ob : Obj := { cls := .type "tuple", data := .seq u2.toArray }
  have nw : ObjOk P w (upd H s.heap.objs.size (.tup rest)) (s.heap.push ob) s.heap.objs.size (.tup rest) := ⟨hz, u2, r2, ⟨_, Heap.get?_push_size _ rfl, rfl, _, rfl⟩⟩
  have e2 := StX.env0_laid (o := ob) e0 nw
  have un := StX.un_laid (fs := frs outer) (s := s) (o := ob) (u := .tup rest) hn
  have lz : (ws ++ [V.ref s.heap.objs.size]).length = (ps ++ [pv]).length := by simp [hl]
  have rz : Vals (ws ++ [V.ref s.heap.objs.size]) (u1 ++ [Value.ref s.heap.objs.size]) := r1.append (.cons rfl .nil)
  have ez : ps.zip u1 ++ [(pv, Value.ref s.heap.objs.size)] = (ps ++ [pv]).zip (u1 ++ [Value.ref s.heap.objs.size]) := by rw [List.zip_append l1.symm]; rfl
  rw [ez]
  have nl : (s.heap.push ob).NoLimit := e0.mod.nolimit.keeps fun b o e => (e2.bs b o e).1
  have kinds : ∀ y ∈ (ps ++ [pv]).zip (u1 ++ [Value.ref s.heap.objs.size]), scope.names.lookup y.1 = some .local ∨ (scope.names.lookup y.1 = some .cell ∧ ((cellsFrom ((s.heap.push ob).objs.size + 1) scope.names []).lookup y.1).isSome = true) := by
    rintro ⟨n, v⟩ hy
    have := S.par n (List.of_mem_zip hy).1
    exact this.elim Or.inl fun q => Or.inr ⟨q, PySem.W.cellsFrom_some _ _ _ (Or.inl q)⟩
  refine PySem.wpAny_newFunctionEnv_cells (s := { s with heap := s.heap.push ob }) S.kind kinds ?_
  rintro env rfl s1 x1
  refine ⟨nl.keeps x1.toInCall.keep, codeAny_func ?_⟩
  obtain ⟨t, pt, ht⟩ := hb A outer { s with heap := s.heap.push ob } _ _ Q E (Room.deeper hr _) (hq _ hn)
  have I1 := inv_start (CX := CX) (E := E) S hr.hd e2 lz rz x1
  refine wpAny_mono (pt.run [] s1 _ _ _ I1 ht) (fun fl s2 z => ?_) fun e s2 z => ?_
  · cases fl with
    | ret u => obtain ⟨v, σ2, H2, J, ru, q⟩ := z; exact ⟨v, H2, J.os, J.bare, un.trans J.base, J.hok, ru, q⟩
    | next => obtain ⟨σ2, H2, J, q⟩ := z; exact ⟨V.non, H2, J.os, J.bare, un.trans J.base, J.hok, rfl, q⟩
    | brk => obtain ⟨_, _, _, q⟩ := z; exact q.elim
    | cont => obtain ⟨_, _, _, q⟩ := z; exact q.elim
  · have up : ∀ e' s', CX outer (upd H s.heap.objs.size (.tup rest)) { s with heap := s.heap.push ob } E e' s' → CX outer H s E e' s' := fun e' s' => hCX outer s H _ _ E e' s' un (fun b o q => Heap.get?_push_of_some _ q) rfl
    exact wpAny_mono z (fun _ s3 y => up e s3 y) fun e' s3 y => up e' s3 y
end
abbrev CXX (X : Cx) : CXT := L2.CX X.prog X.w
section
variable {X : Cx} {W : WX} {pins : List (Addr × Obj)} {σ : St} {H : Hp} {s : Shared}
theorem run_fnRS {k : Nat} {f : Addr} {sp : Sp} {Q : VK} {us : List Value} {vs : List V} (F : FnR X.prog X.w X.K X.mg X.base (CXX X) k f sp) (hr : Room k X.A) (tk : Takes X W) (I : Inv X pins σ H s) (r : Vals vs us) (h : sp vs H Q (WE W σ)) :
    codeAny (model X.prog X.w) X.A (.call (.ref f) ⟨us, []⟩) (fun r s' => match r with | .ok (.ret v) => EP X pins σ Q v s' | .ok _ => False | .error e => X.xe e s') s := by
  refine codeAny_mono (F X.A X.stack s H us vs Q (WE W σ) hr I.env0 r h) fun r s' hq => ?_
  cases r with
  | error e => exact passAt tk σ pins H s e s' I hq
  | ok fl =>
    cases fl with
    | ret u => exact I.after hq
    | next => exact False.elim hq
    | brk => exact False.elim hq
    | cont => exact False.elim hq
theorem run_makeRS {k : Nat} {f C : Addr} {sp : Sp} {Q : VK} {us : List Value} {vs : List V} (M : Mk X.K C f) (F : FnR X.prog X.w X.K X.mg X.base (CXX X) k f sp) (hr : Room (k + 1) X.A) (tk : Takes X W) (I : Inv X pins σ H s) (r : Vals vs us)
    (h : ∀ x dx, H x = Option.none → H dx = Option.none → dx ≠ x → sp (V.ref x :: vs) (upd (upd H dx (.own x)) x (.ins C dx [])) (fun v H2 => v = .non ∧ Q (.ref x) H2) (WE W σ)) :
    wpAny (model X.prog X.w) X.A (call (.ref C) us) (EP X pins σ Q) X.xe s := by
  have hq := h (s.heap.objs.size + 1) s.heap.objs.size (I.hok.fresh (Nat.le_succ _)) (I.hok.fresh (Nat.le_refl _)) (Nat.ne_of_lt (Nat.lt_succ_self _))
  have I2 := Inv.made (C := C) I
  have r2 : Vals (V.ref (s.heap.objs.size + 1) :: vs) (Value.ref (s.heap.objs.size + 1) :: us) := .cons rfl r
  refine wpAny_call (make_map (f := f) I.kIn M.makes M.init (beq_iff_eq.mp M.fn) (codeAny_mono (F _ X.stack _ _ (Value.ref (s.heap.objs.size + 1) :: us) _ _ (WE W σ) (hr.make C us []) (I2.env0.make C us []) r2 hq) fun r s' hq' => ?_))
  cases r with
  | error e => exact passAt tk σ pins _ _ e s' I2 hq'
  | ok fl =>
    cases fl with
    | ret u =>
      obtain ⟨v, H', I3, rv, ev, q3⟩ := I2.after hq'
      subst ev
      exact ⟨rv, ⟨V.ref (s.heap.objs.size + 1), H', I3, rfl, q3⟩⟩
    | next => exact False.elim hq'
    | brk => exact False.elim hq'
    | cont => exact False.elim hq'
end
section
variable {X : Cx} {W : WX} {k : Nat} {f C : Addr} {sp : Sp} {x m : Str} {e o : Expr} {es : List Expr} {ta : TE} {t : TA} {p pos apos : Pos}
def tOwn (W : WX) (sp : Sp) (t : TA) : TE := fun σ H Q => t σ H fun vs H1 => sp vs H1 Q (WE W σ)
theorem pe_own (F : FnR X.prog X.w X.K X.mg X.base (CXX X) k f sp) (hr : Room k X.A) (tk : Takes X W) (hg : Gl X x) (hm : X.mg x = some (.ref f)) (hk : PySem.W.keepIn X.K (.ref f) = true) (ha : PA X (e :: es) t)
    (hdb : (x == ("__debug__" : Str)) = false := by decide) (he : starEach (e :: es) X.env = (false, eval e X.env) :: starEach es X.env := by rfl) (hpl : (backTo pos (starEach es X.env)).any (·.1) = false := by rfl) :
    PE X (.Call (.Name x p) (e :: es) [] pos) (tOwn W sp t) := by
  refine ⟨fun pins s σ H Q I h => ?_⟩
  refine wpAny_Call_Name_kw (ld_glob I hg hm ?_ hdb)
  refine PySem.W.callWith_K (h₀ := X.base) I.ok.mod.kin hk (thn (ha.run pos pins s σ H _ I h) fun us s1 ⟨vs, H1, I1, r, q⟩ => ⟨I1.kIn, ?_⟩) he hpl
  exact wpAny_call (run_fnRS F hr tk I1 r q)
def tMakeS (W : WX) (C : Addr) (sp : Sp) (t : TA) : TE := fun σ H Q => t σ H fun vs H1 => ∀ x dx, H1 x = Option.none → H1 dx = Option.none → dx ≠ x →
  sp (V.ref x :: vs) (upd (upd H1 dx (.own x)) x (.ins C dx [])) (fun v H2 => v = .non ∧ Q (.ref x) H2) (WE W σ)
theorem pe_makeS (M : Mk X.K C f) (F : FnR X.prog X.w X.K X.mg X.base (CXX X) k f sp) (hr : Room (k + 1) X.A) (tk : Takes X W) (hg : Gl X x) (hm : X.mg x = some (.ref C)) (ha : PA X (e :: es) t) (hdb : (x == ("__debug__" : Str)) = false := by decide)
    (he : starEach (e :: es) X.env = (false, eval e X.env) :: starEach es X.env := by rfl) (hpl : (backTo pos (starEach es X.env)).any (·.1) = false := by rfl) : PE X (.Call (.Name x p) (e :: es) [] pos) (tMakeS W C sp t) := by
  refine ⟨fun pins s σ H Q I h => ?_⟩
  refine wpAny_Call_Name_kw (ld_glob I hg hm ?_ hdb)
  refine PySem.W.callWith_K (h₀ := X.base) I.ok.mod.kin M.kp (thn (ha.run pos pins s σ H _ I h) fun us s1 ⟨vs, H1, I1, r, q⟩ => ⟨I1.kIn, ?_⟩) he hpl
  exact run_makeRS M F hr tk I1 r q
def tMethD (W : WX) (ok : Addr → Sp → Prop) (m : Str) (ta : TE) (t : TA) : TE := fun σ H Q => ta σ H fun x H1 => ∃ a C dx fs sp, x = .ref a ∧ H1 a = some (.ins C dx fs) ∧ ok C sp ∧ fs.lookup m = none ∧ t σ H1 fun vs H2 => sp (x :: vs) H2 Q (WE W σ)
structure MethOk (X : Cx) (k : Nat) (m : Str) (ok : Addr → Sp → Prop) : Prop where
  at_ : ∀ C sp, ok C sp → ∃ g, Cls X.K C ∧ Meth X.K C m g ∧ FnR X.prog X.w X.K X.mg X.base (CXX X) k g sp
theorem pe_methD {ok : Addr → Sp → Prop} {pl : Sem Bool} (he : PE X o ta) (T : MethOk X k m ok) (hr : Room k X.A) (tk : Takes X W) (ha : PA X (e :: es) t)
    (hst : starEach (e :: es) X.env = (false, eval e X.env) :: starEach es X.env := by rfl) (hpl : (backTo pos (starEach es X.env)).any (·.1) = false := by rfl)
    (ht : eval (.Call (.Attribute o m apos) (e :: es) [] pos) X.env = (do
      let ov ← eval o X.env
      standAt apos.atName
      let (f, first) ← holding [ov] (getMethod ov m pl)
      callWith pos f first (backTo pos (starEach (e :: es) X.env)) (backToKw pos (keywordEach [] X.env))) := by rfl) :
    PE X (.Call (.Attribute o m apos) (e :: es) [] pos) (tMethD W ok m ta t) := by
  refine ⟨fun pins s σ H Q I h => ?_⟩
  refine PySem.W.methodCall_KW (pl := pl) (thn (he.run pins s σ H _ I h) fun u s1 ⟨x, H1, I1, rx, a, C, dx, fs, sp, ex, ea, hok, l, q⟩ => ?_) ht
  obtain ⟨g, c, hm, F⟩ := T.at_ C sp hok
  subst ex
  obtain rfl : u = Value.ref a := rx
  refine getmeth_ok I1 ea c hm l ?_
  refine PySem.W.callWith_K (first := [.ref a]) (h₀ := X.base) I.ok.mod.kin hm.kp (thn (ha.run pos pins s1 σ H1 _ I1 q) fun us s2 ⟨vs, H2, I2, r, q2⟩ => ⟨I2.kIn, ?_⟩) hst hpl
  exact wpAny_call (run_fnRS (us := .ref a :: us) (vs := .ref a :: vs) F hr tk I2 (.cons rfl r) q2)
theorem pe_methD0 {ok : Addr → Sp → Prop} {pl : Sem Bool} (he : PE X o ta) (T : MethOk X k m ok) (hr : Room k X.A) (tk : Takes X W)
    (ht : eval (.Call (.Attribute o m apos) [] [] pos) X.env = (do
      let ov ← eval o X.env
      standAt apos.atName
      let (f, first) ← holding [ov] (getMethod ov m pl)
      callWith pos f first (backTo pos (starEach [] X.env)) (backToKw pos (keywordEach [] X.env))) := by rfl) :
    PE X (.Call (.Attribute o m apos) [] [] pos) (tMethD W ok m ta tNil) := by
  refine ⟨fun pins s σ H Q I h => ?_⟩
  refine PySem.W.methodCall_KW (pl := pl) (thn (he.run pins s σ H _ I h) fun u s1 ⟨x, H1, I1, rx, a, C, dx, fs, sp, ex, ea, hok, l, q⟩ => ?_) ht
  obtain ⟨g, c, hm, F⟩ := T.at_ C sp hok
  subst ex
  obtain rfl : u = Value.ref a := rx
  refine getmeth_ok I1 ea c hm l ?_
  exact PySem.W.callWith_K0 (first := [.ref a]) I1.kIn hm.kp (wpAny_call (run_fnRS (us := [.ref a]) (vs := [.ref a]) F hr tk I1 (.cons rfl .nil) q))
end
section
variable {M : Gm} {c : Cn M} {F F' H H' : Hp} {σ : St} {δ δ' : Sl}
theorem Ok.stpTmp (ok : Ok c F H σ δ) {x : Addr} (hx : c.H0 x = none) (hns : ∀ (i : Nat) (r : R), δ[i]? = some (some r) → r.mu = true → σ[i]? ≠ some (some (V.ref x))) (st : Stp M F H F' H' (some x)) : Ok c F' H' σ δ := by
  have hio : c.io ≠ some x := fun z => c.iob x z hx
  have kp : ∀ b o, b ≠ x → H b = some o → NT o → H' b = some o := fun b o hb e n => st.kept b o e n (fun z => hb (Option.some.inj z).symm)
  refine ⟨st.same, ok.grow.trans st.grow, fun b e1 e2 => ?_, fun b o e1 e2 => ?_, fun b e1 => ?_, st.tb, ok.len, fun i r e => ?_, ok.dist⟩
  · obtain ⟨u, k1, k2⟩ := ok.hn e1
    exact st.nofz b u k1 k2 (ok.nofz b e1 e2)
  · exact kp b o (fun z => by rw [z, hx] at e1; cases e1) (ok.kept b o e1 e2) (c.nt b o e1)
  · have hb : b ≠ x := fun z => hio (z ▸ e1)
    obtain ⟨o, q1, q2⟩ := ok.ioh b e1
    exact ⟨o, kp b o hb q1 q2, q2⟩
  · obtain ⟨v, s1, s2⟩ := ok.slot i r e
    refine ⟨v, s1, ?_⟩
    cases r with
    | imm d => exact rep_mono st.grow _ _ s2
    | own o =>
      obtain ⟨b, rfl, k1, k2, k3⟩ := s2
      obtain ⟨u, hu, hn⟩ := obAt_nt k3
      have hb : b ≠ x := fun z => hns i _ e rfl (by rw [s1, z])
      exact ⟨b, rfl, st.nofz b u hu hn k1, k2, obAt_mono st.grow ((kp b u hb hu hn).trans hu.symm) k3⟩
    | brw o =>
      obtain ⟨b, rfl, k1, k2, k3⟩ := s2
      obtain ⟨u, hu, hn⟩ := obAt_nt k3
      have hb : b ≠ x := fun z => hns i _ e rfl (by rw [s1, z])
      exact ⟨b, rfl, st.nofz b u hu hn k1, k2, obAt_mono st.grow ((kp b u hb hu hn).trans hu.symm) k3⟩
    | nst tp ps => exact slot_nst st.grow s2
theorem Ok.resR' (ok : Ok c F H σ δ) (hm : ∀ (j : Nat) (r : R), δ'[j]? = some (some r) → r.mu = true → ∃ r0, δ[j]? = some (some r0) ∧ r0.mu = true) {r : R} {v : V} (h : resAt M H F' H' r v) : repR c F' H' σ δ' r v := by
  cases r with
  | imm d => exact h
  | own o =>
    obtain ⟨a, rfl, h1, h2, h3⟩ := h
    refine ⟨a, rfl, h1, ok.h1 h2, h3, fun i r e m => ?_⟩
    obtain ⟨r0, e0, m0⟩ := hm i r e m
    exact ok.fresh1 h2 i r0 e0 m0
  | brw o => exact h
  | nst tp ps =>
    obtain ⟨a, vs, h1, h2, h3⟩ := h
    refine ⟨a, vs, h1, h2, fun b hb => ⟨(h3 b hb).1, ok.h1 (h3 b hb).2, fun i r e m => ?_⟩⟩
    obtain ⟨r0, e0, m0⟩ := hm i r e m
    exact ok.fresh1 (h3 b hb).2 i r0 e0 m0
theorem set_mu {i : Nat} {r r' : R} (e : δ[i]? = some (some r)) (h : r.mu = true) : ∀ (j : Nat) (q : R), (δ.set i (some r'))[j]? = some (some q) → q.mu = true → ∃ r0, δ[j]? = some (some r0) ∧ r0.mu = true := fun j q e1 m => by
  rcases getElem?_set_some e1 with ⟨rfl, _, _⟩ | ⟨_, e2⟩
  · exact ⟨r, e, h⟩
  · exact ⟨q, e2, m⟩
end
def outE (r : FR) (δ : Sl) : Res R := match r with
  | .ok r _ => .ok r δ
  | .exc x _ => .exc x δ
  | .bad => .bad
def fOwn (f : Fm) (fa : FA) : FE := fun δ => (fa δ).bind fun ds δ1 => outE (f none ds) δ1
def fOwnIo (f : Fm) (i : Nat) (fa : FA) : FE := fun δ => match δ[i]? with
  | some (some r0) => if r0.mu then (fa δ).bind fun ds δ1 => match δ1[i]? with
      | some (some (.own o)) => (match f (some o) ds with
        | .ok r (some o') => .ok r (δ1.set i (some (.own o')))
        | .exc x (some o') => .exc x (δ1.set i (some (.own o')))
        | _ => .bad)
      | some (some (.brw o)) => (match f (some o) ds with
        | .ok r (some o') => .ok r (δ1.set i (some (.brw o')))
        | .exc x (some o') => .exc x (δ1.set i (some (.brw o')))
        | _ => .bad)
      | _ => .bad
    else .bad
  | _ => .bad
def fOwnT (f : Fm) (fe : FE) : FE := fun δ => (fe δ).bind fun r δ1 => match r with
  | .own o => outE (f (some o) []) δ1
  | _ => .bad
def fMake (n : Nat) (f : Fm) (fa : FA) : FE := fun δ => (fa δ).bind fun ds δ1 => match f (some (.o n [])) ds with
  | .ok (.imm .non) (some (.o n' vs)) => if n' = n then .ok (.own (.o n vs)) δ1 else .bad
  | .exc x _ => .exc x δ1
  | _ => .bad
def fMakeL (n i : Nat) (f : Fm) (fa : FA) : FE := fun δ => match δ[i]? with
  | some (some (.imm (.cls n'))) => if n' = n then fMake n f fa δ else .bad
  | _ => .bad
def fMeth (tab : Nat → Option Fm) (fo : FD) (fa : FA) : FE := fun δ => (fo δ).bind fun d δ1 => match d with
  | .obj n vs => (match tab n with
    | some f => (fa δ1).bind fun ds δ2 => outE (f none (.obj n vs :: ds)) δ2
    | none => .bad)
  | _ => .bad
section
variable {M : Gm} {c : Cn M} {W : WX} {X : Cx} {e : Expr} {es : List Expr} {fa : FA} {f : Fm}
theorem own_of {F H : Hp} {σ : St} {δ : Sl} {vs : List V} {ds : List D} {Q : VK} (ok : Ok c F H σ δ) (rs : reps M F ds vs) (post : Post c W F σ (ρR c σ) (outE (f none ds) δ) Q) : spD M f vs H Q (WE W σ) := by
  refine ⟨F, none, 0, vs, ds, rfl, ok.same, ok.tb, rs, trivial, ?_⟩
  unfold outE at post
  cases q : f none ds with
  | ok r io => rw [q] at post; exact fun v F' H' st ra _ => post v F' H' st.grow (ok.stp st) (ok.resR st ra)
  | exc x io => rw [q] at post; exact fun cls d F' H' st xa _ => post cls d F' H' st.grow (ok.stp st) xa
  | bad => rw [q] at post; exact post
theorem make_of {n : Nat} {C : Addr} {F1 H1 : Hp} {σ : St} {δ1 : Sl} {vs : List V} {ds : List D} {Q : VK} (ok1 : Ok c F1 H1 σ δ1) (hG : M.G n = some C) (rs : reps M F1 ds vs)
    (post : Post c W F1 σ (ρR c σ) (match f (some (.o n [])) ds with
      | .ok (.imm .non) (some (.o n' vs)) => if n' = n then .ok (.own (.o n vs)) δ1 else .bad
      | .exc x _ => .exc x δ1
      | _ => .bad) Q) {x dx : Addr} (hx : H1 x = none) (hdx : H1 dx = none) (hne : dx ≠ x) :
    spD M f (V.ref x :: vs) (upd (upd H1 dx (.own x)) x (.ins C dx [])) (fun v H2 => v = .non ∧ Q (.ref x) H2) (WE W σ) := by
  have ok2 : Ok c F1 (upd H1 dx (.own x)) σ δ1 := ok1.alloc hdx
  have hx2 : (upd H1 dx (.own x)) x = none := by rw [upd_ne (Ne.symm hne)]; exact hx
  have ok3 : Ok c F1 (upd (upd H1 dx (.own x)) x (.ins C dx [])) σ δ1 := ok2.alloc hx2
  refine ⟨F1, some (.o n []), x, vs, ds, rfl, ok3.same, ok3.tb, rs, ⟨ok1.f hx, C, dx, [], hG, upd_same, rfl, reps_nil⟩, ?_⟩
  have h0 := ok1.h0 hx
  have hns := ok1.fresh hx
  cases q : f (some (.o n [])) ds with
  | bad => rw [q] at post; exact post
  | exc xx io => rw [q] at post; exact fun cls d F' H' st xa _ => post cls d F' H' st.grow (ok3.stpTmp h0 hns st) xa
  | ok r io =>
    rw [q] at post
    intro v F' H' st ra ia
    split at post
    · rename_i n' vs' e1
      cases e1
      split at post
      · rename_i hn
        subst hn
        have ev : v = .non := by
          have z : rep M F' .non v := ra
          unfold rep at z; exact z
        refine ⟨ev, post _ F' H' st.grow (ok3.stpTmp h0 hns st) ⟨x, rfl, ia.1, h0, ia.2, hns⟩⟩
      · exact post.elim
    · rename_i e1
      cases e1
    · exact post.elim
theorem d_own (mk : ∀ {t : TA}, PA X es t → PE X e (tOwn W (spD M f) t)) (ha : DA M W X es fa) : DE M W X e (fOwn f fa) := by
  obtain ⟨t, p, h⟩ := ha
  exact ⟨_, mk p, fun c F H σ δ Q ok post => h c F H σ δ _ ok (Post.bind post fun ds δ1 vs F1 H1 _ s ok1 rs post => own_of ok1 rs post)⟩
theorem d_ownIo {e0 : Expr} {i : Nat} (mk : ∀ {t : TA}, PA X (e0 :: es) t → PE X e (tOwn W (spD M f) t)) (h0 : PE X e0 (tVar i)) (ha : DA M W X es fa) (hs : starEach (e0 :: es) X.env = (false, eval e0 X.env) :: starEach es X.env := by rfl) : DE M W X e (fOwnIo f i fa) := by
  obtain ⟨t, p, h⟩ := ha
  refine ⟨_, mk (pa_cons h0 p hs), fun c F H σ δ Q ok post => ?_⟩
  unfold fOwnIo at post
  split at post
  · rename_i r0 q0
    split at post
    · rename_i hm0
      obtain ⟨a, ob0, ea, _, _, _⟩ := ok.mus q0 hm0
      refine ⟨.ref a, ea, h c F H σ δ _ ok (Post.bind post fun ds δ1 vs F1 H1 _ s1 ok1 rs post => ?_)⟩
      have fin : ∀ (r r1 : R) (ob : OB) (mkr : OB → R), δ1[i]? = some (some r1) → r1 = mkr ob → (∀ o, (mkr o).mu = true) → (mkr = R.own ∨ mkr = R.brw) →
          Post c W F1 σ (ρR c σ) (match f (some ob) ds with | .ok r (some o') => .ok r (δ1.set i (some (mkr o'))) | .exc x (some o') => .exc x (δ1.set i (some (mkr o'))) | _ => .bad) Q → spD M f (V.ref a :: vs) H1 Q (WE W σ) := by
        intro r r1 ob mkr q1 e1 hm hk post
        subst e1
        obtain ⟨a', ob1, ea', hf1, hob1, hk1⟩ := ok1.mus q1 (hm ob)
        rw [ea] at ea'; cases ea'
        have eob : ob1 = ob := by
          rcases hk with rfl | rfl
          · rcases hk1 with ⟨z, _⟩ | ⟨z, _⟩ <;> cases z; rfl
          · rcases hk1 with ⟨z, _⟩ | ⟨z, _⟩ <;> cases z; rfl
        subst eob
        have rel : ∀ o', (mkr ob1 = R.own ob1 ∧ mkr o' = R.own o') ∨ (mkr ob1 = R.brw ob1 ∧ mkr o' = R.brw o') := fun o' => by
          rcases hk with rfl | rfl
          · exact .inl ⟨rfl, rfl⟩
          · exact .inr ⟨rfl, rfl⟩
        refine ⟨F1, some ob1, a, vs, ds, rfl, ok1.same, ok1.tb, rs, ⟨hf1, hob1⟩, ?_⟩
        cases q : f (some ob1) ds with
        | bad => rw [q] at post; exact post
        | ok r io =>
          rw [q] at post
          cases io with
          | none => exact post.elim
          | some o' =>
            intro v F' H' st ra ia
            exact post v F' H' st.grow (ok1.stpIo q1 (rel o') ea st ia) (ok1.resR' (set_mu q1 (hm _)) ra)
        | exc x io =>
          rw [q] at post
          cases io with
          | none => exact post.elim
          | some o' =>
            intro cls d F' H' st xa ia
            exact post cls d F' H' st.grow (ok1.stpIo q1 (rel o') ea st ia) xa
      split at post
      · rename_i o q1
        exact fin (.imm .non) _ o R.own q1 rfl (fun _ => rfl) (.inl rfl) post
      · rename_i o q1
        exact fin (.imm .non) _ o R.brw q1 rfl (fun _ => rfl) (.inr rfl) post
      · exact post.elim
    · exact post.elim
  · exact post.elim
theorem d_ownT {e0 : Expr} {fe : FE} (mk : ∀ {t : TA}, PA X [e0] t → PE X e (tOwn W (spD M f) t)) (h0 : DE M W X e0 fe) (hs : starEach (e0 :: []) X.env = (false, eval e0 X.env) :: starEach [] X.env := by rfl) : DE M W X e (fOwnT f fe) := by
  obtain ⟨t, p, h⟩ := h0
  refine ⟨_, mk (pa_cons p pa_nil hs), fun c F H σ δ Q ok post => h c F H σ δ _ ok (Post.bind post fun r δ1 v F1 H1 _ s1 ok1 rr post => ?_)⟩
  cases r with
  | imm d => exact post.elim
  | brw o => exact post.elim
  | nst _ _ => exact post.elim
  | own o =>
    obtain ⟨a, rfl, h1, h2, h3, h4⟩ := rr
    refine ⟨F1, some o, a, [], [], rfl, ok1.same, ok1.tb, reps_nil, ⟨h1, h3⟩, ?_⟩
    change Post c W F1 σ (ρR c σ) (outE (f (some o) []) δ1) Q at post
    unfold outE at post
    cases q : f (some o) [] with
    | ok r io => rw [q] at post; exact fun v F' H' st ra _ => post v F' H' st.grow (ok1.stpTmp h2 h4 st) (ok1.resR' (fun j r e m => ⟨r, e, m⟩) ra)
    | exc x io => rw [q] at post; exact fun cls d F' H' st xa _ => post cls d F' H' st.grow (ok1.stpTmp h2 h4 st) xa
    | bad => rw [q] at post; exact post
theorem d_make {n : Nat} {C : Addr} (mk : ∀ {t : TA}, PA X es t → PE X e (tMakeS W C (spD M f) t)) (hG : M.G n = some C) (ha : DA M W X es fa) : DE M W X e (fMake n f fa) := by
  obtain ⟨t, p, h⟩ := ha
  refine ⟨_, mk p, fun c F H σ δ Q ok post => h c F H σ δ _ ok (Post.bind post fun ds δ1 vs F1 H1 _ s1 ok1 rs post => fun x dx hx hdx hne => ?_)⟩
  exact make_of ok1 hG rs post hx hdx hne
theorem lookup_none {α : Type} : ∀ {fs : List (Str × α)} {m : Str}, m ∉ fs.map (·.1) → fs.lookup m = none
  | [], m, _ => rfl
  | (k, v) :: r, m, h => by
    have h1 : m ≠ k := fun z => h (by simp [z])
    have h2 : m ∉ r.map (·.1) := fun z => h (by simp [z])
    have e : (m == k) = false := by simpa using h1
    simp only [List.lookup, e]
    exact lookup_none h2
def okM (M : Gm) (tab : Nat → Option Fm) : Addr → Sp → Prop := fun C sp => ∃ n f, tab n = some f ∧ M.G n = some C ∧ sp = spD M f
theorem d_meth {o : Expr} {m : Str} {tab : Nat → Option Fm} {fo : FD} (mk : ∀ {ta : TE} {t : TA}, PE X o ta → PA X es t → PE X e (tMethD W (okM M tab) m ta t)) (hn : ∀ n f, tab n = some f → m ∉ M.nm n) (ho : DI M W X o fo) (ha : DA M W X es fa) : DE M W X e (fMeth tab fo fa) := by
  obtain ⟨ta, pa, ho⟩ := ho
  obtain ⟨t, p, h⟩ := ha
  refine ⟨_, mk pa p, fun c F H σ δ Q ok post => ho c F H σ δ _ ok (Post.bind post fun d δ1 v F1 H1 _ s1 ok1 r post => ?_)⟩
  split at post
  · rename_i n vs _
    split at post
    · rename_i f hf
      have r0 := r
      unfold ρD rep at r
      obtain ⟨a, C, dx, fs, rfl, h1, h2, h3, h4⟩ := r
      refine ⟨a, C, dx, fs, spD M f, rfl, ok1.same _ _ h2, ⟨n, f, hf, h1, rfl⟩, lookup_none (fun z => hn n f hf (List.mem_of_mem_take (h3 ▸ z))), h c F1 H1 σ δ1 _ ok1 (Post.bind post fun ds δ2 ws F2 H2 _ s2 ok2 rs post => ?_)⟩
      exact own_of ok2 (reps_cons (rep_mono s2 _ _ r0) rs) post
    · exact post.elim
  · exact post.elim
theorem methOk_of {k : Nat} {m : Str} {tab : Nat → Option Fm} {M : Gm} (h : ∀ n f, tab n = some f → ∃ C g, M.G n = some C ∧ Cls X.K C ∧ Meth X.K C m g ∧ FnR X.prog X.w X.K X.mg X.base (CXX X) k g (spD M f)) : MethOk X k m (okM M tab) := ⟨fun C sp ⟨n, f, h1, h2, h3⟩ => by
  obtain ⟨C', g, k1, k2, k3, k4⟩ := h n f h1
  rw [h2] at k1; cases k1
  subst h3
  exact ⟨g, k2, k3, k4⟩⟩
theorem lookup_at {α : Type} : ∀ {fs : List (Str × α)} {j : Nat} {f : Str} {v : α}, (fs.map (·.1))[j]? = some f → f ∉ (fs.map (·.1)).take j → (fs.map (·.2))[j]? = some v → fs.lookup f = some v
  | [], j, f, v, h, _, _ => by simp at h
  | (k, w) :: r, 0, f, v, h, _, hv => by
    simp at h hv
    subst h hv
    simp [List.lookup]
  | (k, w) :: r, j + 1, f, v, h, hn, hv => by
    simp at h hv
    simp only [List.map_cons, List.take_succ_cons, List.mem_cons, not_or] at hn
    have e : (f == k) = false := by simpa using hn.1
    simp only [List.lookup, e]
    exact lookup_at (by simpa using h) hn.2 (by simpa using hv)
def fFld (ix : Nat → Option Nat) (fo : FD) : FD := fun δ => (fo δ).bind fun d δ1 => match d with
  | .obj n vs => (match ix n with
    | some j => (match vs[j]? with
      | some d => .ok d δ1
      | none => .bad)
    | none => .bad)
  | _ => .bad
def FldT (M : Gm) (f : Str) (ix : Nat → Option Nat) : Prop := ∀ n j, ix n = some j → (∀ C, M.G n = some C → Cls M.K C ∧ NoAttr M.K C f) ∧ (M.nm n)[j]? = some f ∧ f ∉ (M.nm n).take j
theorem fld_look {M : Gm} {f : Str} {ix : Nat → Option Nat} (T : FldT M f ix) {F : Hp} {n j : Nat} {vs : List D} {fs : List (Str × V)} {d : D} (hj : ix n = some j) (h3 : fs.map (·.1) = (M.nm n).take vs.length) (h4 : reps M F vs (fs.map (·.2))) (hd : vs[j]? = some d) : ∃ v, fs.lookup f = some v ∧ rep M F d v := by
  obtain ⟨_, k1, k2⟩ := T n j hj
  obtain ⟨v, e1, e2⟩ := reps_get h4 hd
  have hl : j < vs.length := (List.getElem?_eq_some_iff.mp hd).1
  refine ⟨v, lookup_at (j := j) ?_ ?_ e1, e2⟩
  · rw [h3, List.getElem?_take_of_lt hl]; exact k1
  · rw [h3, List.take_take, Nat.min_eq_left (Nat.le_of_lt hl)]; exact k2
theorem di_fld {o : Expr} {f : Str} {pos : Pos} {ix : Nat → Option Nat} {fo : FD} (T : FldT M f ix) (ho : DP M W X o fo) (hK : X.K = M.K := by rfl) (hb : attributeBase o f X.env (eval o X.env) = eval o X.env := by rfl) : DI M W X (.Attribute o f pos) (fFld ix fo) := by
  obtain ⟨ta, pa, ho⟩ := ho
  refine ⟨_, pe_fld pa hb, fun c F H σ δ Q ok post => ho c F H σ δ _ ok (Post.bind post fun d δ1 v F1 H1 _ s1 ok1 r post => ?_)⟩
  split at post
  · rename_i n vs _
    split at post
    · rename_i j hj
      split at post
      · rename_i d hd
        obtain ⟨a, C, dx, fs, rfl, h1, h2, h3, h4⟩ := prep_obj ok1.same r
        obtain ⟨w, e1, e2⟩ := fld_look T hj h3 h4 hd
        obtain ⟨k1, k2⟩ := (T n j hj).1 C h1
        exact ⟨a, C, dx, fs, w, rfl, h2, by rw [hK]; exact k1, by rw [hK]; exact k2, e1, post.ok ok1 e2⟩
      · exact post.elim
    · exact post.elim
  · exact post.elim
def fProp (tab : Nat → Option Fm) (fo : FD) : FD := fun δ => (fo δ).bind fun d δ1 => match d with
  | .obj n vs => (match tab n with
    | some f => (match f none [.obj n vs] with
      | .ok (.imm d) _ => .ok d δ1
      | _ => .bad)
    | none => .bad)
  | _ => .bad
def tPropD (ok : Addr → Sp → Prop) (ta : TE) : TE := fun σ H Q => ta σ H fun x H1 => ∃ a C dx fs sp, x = .ref a ∧ H1 a = some (.ins C dx fs) ∧ ok C sp ∧ sp [.ref a] H1 Q E0
structure PropOk (X : Cx) (k : Nat) (f : Str) (ok : Addr → Sp → Prop) : Prop where
  at_ : ∀ C sp, ok C sp → ∃ p g, Cls X.K C ∧ PropOf X.K C f p g ∧ FnR X.prog X.w X.K X.mg X.base (CXX X) k g sp
theorem prop_run {k : Nat} {f : Str} {C p g a dx : Addr} {fs : List (Str × V)} {sp : Sp} {pins : List (Addr × Obj)} {σ : St} {H : Hp} {s : Shared} {Q : VK} {b : Bool} (I : Inv X pins σ H s) (ea : H a = some (.ins C dx fs)) (c : Cls X.K C) (hp : PropOf X.K C f p g)
    (F : FnR X.prog X.w X.K X.mg X.base (CXX X) k g sp) (hr : Room (k + 1) X.A) (h : sp [.ref a] H Q E0) : wpAny (model X.prog X.w) X.A (getAttr (.ref a) f b) (EP X pins σ Q) X.xe s := by
  obtain ⟨mA, O, _, _, _, _⟩ := ins_get I.hok ea
  obtain ⟨od, J, _⟩ := O.look
  obtain ⟨rest, hrec⟩ := hp.rec_
  obtain ⟨cd, ecd, _⟩ := PySem.W.any_some c.hd
  have I1 := I.tok (s.toks + 1)
  have pg := PySem.W.plainGet_of (c.get f)
  have run := F X.A.in1 X.stack { s with toks := s.toks + 1 } H [.ref a] [.ref a] Q E0 (Room.in1 hr) I1.env0.in1 (.cons rfl .nil) h
  refine PySem.W.get_bind I.kIn J pg.1 (PySem.W.findObj_data (by rw [ecd]; rfl) hp.at_ hp.get hp.tak) pg.2 (wpAny_call (PySem.W.prop_get (s := { s with toks := s.toks + 1 }) I.kIn hrec (codeAny_mono run fun r s' z => ?_)))
  cases r with
  | error er => exact False.elim ((passL : Passes _ X.nox _) pins σ H { s with toks := s.toks + 1 } er s' (I1.wish _) z)
  | ok fl =>
    cases fl with
    | ret u =>
      obtain ⟨v, H', I3, ru, q⟩ := I1.after z
      show wpAny _ _ (handedOut u) _ _ _
      rw [PySem.W.handedOut_of (handed_of ru)]
      exact wpAny_pure ⟨v, H', I3, ru, q⟩
    | next => exact z.elim
    | brk => exact z.elim
    | cont => exact z.elim
theorem pe_propD {o : Expr} {f : Str} {pos : Pos} {k : Nat} {ta : TE} {ok : Addr → Sp → Prop} (he : PE X o ta) (T : PropOk X k f ok) (hr : Room (k + 1) X.A) (hab : attributeBase o f X.env (eval o X.env) = eval o X.env := by rfl) : PE X (.Attribute o f pos) (tPropD ok ta) := by
  refine ⟨fun pins s σ H Q I h => ?_⟩
  refine attr_of hab (thn (he.run pins s σ H _ I h) fun u s1 ⟨x, H1, I1, rx, a, C, dx, fs, sp, ex, ea, hok, q⟩ => ?_)
  obtain ⟨p, g, c, hp, F⟩ := T.at_ C sp hok
  subst ex
  obtain rfl : u = Value.ref a := rx
  exact prop_run I1 ea c hp F hr q
end
end
end TS

namespace TS
open PySem L2
noncomputable section
section
variable {M : Gm} {c : Cn M} {W : WX} {X : Cx}
theorem propOk_of {k : Nat} {m : Str} {tab : Nat → Option Fm} {M : Gm} (h : ∀ n f, tab n = some f → ∃ C p g, M.G n = some C ∧ Cls X.K C ∧ PropOf X.K C m p g ∧ FnR X.prog X.w X.K X.mg X.base (CXX X) k g (spD M f)) : PropOk X k m (okM M tab) := ⟨fun C sp ⟨n, f, h1, h2, h3⟩ => by
  obtain ⟨C', p, g, k1, k2, k3, k4⟩ := h n f h1
  rw [h2] at k1; cases k1
  subst h3
  exact ⟨p, g, k2, k3, k4⟩⟩
theorem di_prop {o : Expr} {f : Str} {pos : Pos} {k : Nat} {tab : Nat → Option Fm} {fo : FD} (T : PropOk X k f (okM M tab)) (hr : Room (k + 1) X.A) (ho : DI M W X o fo) (hb : attributeBase o f X.env (eval o X.env) = eval o X.env := by rfl) : DI M W X (.Attribute o f pos) (fProp tab fo) := by
  obtain ⟨ta, pa, ho⟩ := ho
  refine ⟨_, pe_propD pa T hr hb, fun c F H σ δ Q ok post => ho c F H σ δ _ ok (Post.bind post fun d δ1 v F1 H1 _ s1 ok1 r post => ?_)⟩
  split at post
  · rename_i n vs _
    split at post
    · rename_i f hf
      split at post
      · rename_i d io hd
        have r0 := r
        unfold ρD rep at r
        obtain ⟨a, C, dx, fs, rfl, h1, h2, h3, h4⟩ := r
        refine ⟨a, C, dx, fs, spD M f, rfl, ok1.same _ _ h2, ⟨n, f, hf, h1, rfl⟩, F1, none, 0, [.ref a], [.obj n vs], rfl, ok1.same, ok1.tb, reps_cons r0 reps_nil, trivial, ?_⟩
        rw [hd]
        exact fun v F' H' st ra _ => post v F' H' st.grow (ok1.stp st) ra
      · exact post.elim
    · exact post.elim
  · exact post.elim
theorem di_cval {o : Expr} {f : Str} {pos : Pos} {C : Addr} {mc u : Value} {v : V} {d : D} (ho : PE X o (tC (.ref C))) (r : ClX.CRead X.K C mc) (k : ClX.CVal X.K C mc f v u) (hd : ∀ F, rep M F d v) (hb : attributeBase o f X.env (eval o X.env) = eval o X.env := by rfl) : DI M W X (.Attribute o f pos) (kD d) :=
  ⟨_, ClX.pe_cval ho hb, fun c F H σ δ Q ok post => ⟨C, mc, v, u, rfl, r, k, post.ok ok (hd F)⟩⟩
section
variable {X : Cx} {pins : List (Addr × Obj)} {σ : St} {H : Hp} {s : Shared} {k : Nat} {C p g : Addr} {mc : Value} {sp : Sp} {o e : Expr} {es : List Expr} {m : Str} {pos apos : Pos} {ta : TE} {t : TA} {pl : Sem Bool}
end
def fCMeth (n : Nat) (f : Fm) (fa : FA) : FE := fun δ => (fa δ).bind fun ds δ1 => outE (f none (.cls n :: ds)) δ1
end
def PostS (c : Cn M) (W : WX) (F : Hp) (r : SR) (E : Ends) : Prop := match r with
  | .nx δ' => ∀ F' H' σ', Same F F' → Ok c F' H' σ' δ' → E.nx σ' H'
  | .rt r δ' => ∀ v F' H' σ', Same F F' → Ok c F' H' σ' δ' → repR c F' H' σ' δ' r v → E.rt v H'
  | .bk δ' => ∀ F' H' σ', Same F F' → Ok c F' H' σ' δ' → E.bk σ' H'
  | .ct δ' => ∀ F' H' σ', Same F F' → Ok c F' H' σ' δ' → E.ct σ' H'
  | .exc x δ' => ∀ cls d F' H' σ', Same F F' → Ok c F' H' σ' δ' → xAt M F' x cls d H' → W cls d σ' H'
  | .bad => False
def DS (M : Gm) (W : WX) (X : Cx) (s : Stmt) (g : FS) : Prop := ∃ t, PS X s t ∧ ∀ (c : Cn M) F H σ δ E, Ok c F H σ δ → PostS c W F (g δ) E → t E σ H
def DSs (M : Gm) (W : WX) (X : Cx) (s : List Stmt) (g : FS) : Prop := ∃ t, PSs X s t ∧ ∀ (c : Cn M) F H σ δ E, Ok c F H σ δ → PostS c W F (g δ) E → t E σ H
def SR.bind (m : SR) (k : Sl → SR) : SR := match m with
  | .nx δ => k δ
  | r => r
@[simp] theorem SR.bind_nx (δ : Sl) (k : Sl → SR) : (SR.nx δ).bind k = k δ := rfl
@[simp] theorem SR.bind_rt (r : R) (δ : Sl) (k : Sl → SR) : (SR.rt r δ).bind k = .rt r δ := rfl
@[simp] theorem SR.bind_exc (r : XD) (δ : Sl) (k : Sl → SR) : (SR.exc r δ).bind k = .exc r δ := rfl
section
variable {M : Gm} {c : Cn M} {W : WX} {X : Cx} {F F1 H H1 : Hp} {σ : St} {δ : Sl}
theorem PostS.shift {r : SR} {E : Ends} (h : PostS c W F r E) (g : Same F F1) : PostS c W F1 r E := by
  cases r with
  | nx δ' => exact fun F' H' σ' s => h F' H' σ' (g.trans s)
  | rt r δ' => exact fun v F' H' σ' s => h v F' H' σ' (g.trans s)
  | bk δ' => exact fun F' H' σ' s => h F' H' σ' (g.trans s)
  | ct δ' => exact fun F' H' σ' s => h F' H' σ' (g.trans s)
  | exc x δ' => exact fun cls d F' H' σ' s => h cls d F' H' σ' (g.trans s)
  | bad => exact h
theorem PostS.bind {m : SR} {k : Sl → SR} {E : Ends} {N : St → Hp → Prop} (h : PostS c W F (m.bind k) E) (f : ∀ δ1 F1 H1 σ1, m = .nx δ1 → Same F F1 → Ok c F1 H1 σ1 δ1 → PostS c W F1 (k δ1) E → N σ1 H1) : PostS c W F m { E with nx := N } := by
  cases m with
  | nx δ' => exact fun F' H' σ' s ok => f δ' F' H' σ' rfl s ok (PostS.shift h s)
  | rt r δ' => exact h
  | bk δ' => exact h
  | ct δ' => exact h
  | exc x δ' => exact h
  | bad => exact h
theorem PostS.ofE {α β : Type} {ρ : Hp → Hp → Sl → α → β → Prop} {m : Res α} {k : α → Sl → SR} {E : Ends} {T : β → Hp → Prop} (h : PostS c W F (m.bindS k) E)
    (f : ∀ a δ1 v F1 H1, m = .ok a δ1 → Same F F1 → Ok c F1 H1 σ δ1 → ρ F1 H1 δ1 a v → PostS c W F1 (k a δ1) E → T v H1) : Post c W F σ ρ m T := by
  cases m with
  | ok a δ' => exact fun v F' H' s ok r => f a δ' v F' H' rfl s ok r (PostS.shift h s)
  | exc x δ' => exact fun cls d F' H' s ok r => h cls d F' H' σ s ok r
  | bad => exact h
def sSeq (f g : FS) : FS := fun δ => (f δ).bind g
def sNil : FS := fun δ => .nx δ
theorem dss_nil : DSs M W X [] sNil := ⟨_, pss_nil, fun c F H σ δ E ok post => post F H σ (Same.refl _) ok⟩
theorem dss_cons {s : Stmt} {ss : List Stmt} {f g : FS} (h : DS M W X s f) (h' : DSs M W X ss g) : DSs M W X (s :: ss) (sSeq f g) := by
  obtain ⟨t, p, h⟩ := h
  obtain ⟨t', p', h'⟩ := h'
  exact ⟨_, pss_cons p p', fun c F H σ δ E ok post => h c F H σ δ _ ok (PostS.bind post fun δ1 F1 H1 σ1 _ s1 ok1 post => h' c F1 H1 σ1 δ1 E ok1 post)⟩
theorem dss_one {s : Stmt} {f : FS} (h : DS M W X s f) : DSs M W X [s] f := by
  obtain ⟨t, p, h⟩ := h
  exact ⟨_, pss_one p, h⟩
def sRet (f : FE) : FS := fun δ => (f δ).bindS fun r δ1 => .rt r δ1
theorem ds_ret {e : Expr} {pos : Pos} {f : FE} (h : DE M W X e f) : DS M W X (.Return (some e) pos) (sRet f) := by
  obtain ⟨t, p, h⟩ := h
  exact ⟨_, ps_ret p, fun c F H σ δ E ok post => h c F H σ δ _ ok (PostS.ofE post fun r δ1 v F1 H1 _ s ok1 rr post => post v F1 H1 σ (Same.refl _) ok1 rr)⟩
def sExpr (f : FE) : FS := fun δ => (f δ).bindS fun _ δ1 => .nx δ1
theorem ds_expr {e : Expr} {pos : Pos} {f : FE} (h : DE M W X e f) (hs : swapsWith e none pos.line X.env = pure false := by rfl) : DS M W X (.Expr e pos) (sExpr f) := by
  obtain ⟨t, p, h⟩ := h
  exact ⟨_, ps_expr p hs, fun c F H σ δ E ok post => h c F H σ δ _ ok (PostS.ofE post fun r δ1 v F1 H1 _ s ok1 rr post => post F1 H1 σ (Same.refl _) ok1)⟩
def sIf (t : FT) (f g : FS) : FS := fun δ => (t δ).bindS fun b δ1 => if b then f δ1 else g δ1
theorem ds_if {e : Expr} {ss ss' : List Stmt} {pos : Pos} {t : FT} {f g : FS} (h : DT M W X e t) (ha : DSs M W X ss f) (hb : DSs M W X ss' g) : DS M W X (.If e ss ss' pos) (sIf t f g) := by
  obtain ⟨t, p, h⟩ := h
  obtain ⟨ta, pa, ha⟩ := ha
  obtain ⟨tb, pb, hb⟩ := hb
  refine ⟨_, ps_if p pa pb, fun c F H σ δ E ok post => h c F H σ δ _ ok (PostS.ofE post fun b δ1 k F1 H1 _ s ok1 e post => ?_)⟩
  cases (show b = k from e)
  cases b with
  | true => exact ha c F1 H1 σ δ1 E ok1 post
  | false => exact hb c F1 H1 σ δ1 E ok1 post
def sNev : FS := fun _ => .bad
theorem ds_never {s : Stmt} : DS M W X s sNev := ⟨_, ps_never, fun c F H σ δ E ok post => post⟩
def DG (M : Gm) (W : WX) (X : Cx) (tg : Expr) (h : R → Sl → SR) : Prop := ∃ g, PG X tg g ∧ ∀ (c : Cn M) F H σ δ v r (Q : St → Hp → Prop), Ok c F H σ δ → repR c F H σ δ r v → PostS c W F (h r δ) ⟨Q, fun _ _ => False, fun _ _ => False, fun _ _ => False⟩ → g v σ H Q
def tName (i : Nat) : R → Sl → SR := fun r δ => match r with
  | .brw _ => .bad
  | .nst _ _ => .bad
  | r => .nx (δ.set i (some r))
theorem dg_name {tg : Expr} {i : Nat} (h : PG X tg (gName i)) : DG M W X tg (tName i) := by
  refine ⟨_, h, fun c F H σ δ v r Q ok rr post => ?_⟩
  unfold tName at post
  cases r with
  | imm d => exact post F H _ (Same.refl _) (ok.setI i rr)
  | own o => exact post F H _ (Same.refl _) (ok.setO i rr)
  | brw o => exact post.elim
  | nst _ _ => exact post.elim
def DGs (M : Gm) (W : WX) (X : Cx) (ts : List Expr) (h : List D → Sl → SR) : Prop := ∃ g, PGs X ts g ∧ ∀ (c : Cn M) F H σ δ vs ds (Q : St → Hp → Prop), Ok c F H σ δ → reps M F ds vs → PostS c W F (h ds δ) ⟨Q, fun _ _ => False, fun _ _ => False, fun _ _ => False⟩ → g vs σ H Q
def tsNil : List D → Sl → SR := fun ds δ => match ds with
  | [] => .nx δ
  | _ => .bad
def tsCons (h : R → Sl → SR) (hs : List D → Sl → SR) : List D → Sl → SR := fun ds δ => match ds with
  | d :: ds => (h (.imm d) δ).bind (hs ds)
  | [] => .bad
theorem dgs_nil : DGs M W X [] tsNil := ⟨_, pgs_nil, fun c F H σ δ vs ds Q ok rs post => by
  unfold tsNil at post
  split at post
  · unfold reps at rs
    exact ⟨rs, post F H σ (Same.refl _) ok⟩
  · exact post.elim⟩
theorem dgs_cons {e : Expr} {es : List Expr} {h : R → Sl → SR} {hs : List D → Sl → SR} (h1 : DG M W X e h) (h2 : DGs M W X es hs) (hq : (assignEach (e :: es) X.env).map (·.2) = assign e X.env :: (assignEach es X.env).map (·.2) := by rfl) : DGs M W X (e :: es) (tsCons h hs) := by
  obtain ⟨g, p, h1⟩ := h1
  obtain ⟨g', p', h2⟩ := h2
  refine ⟨_, pgs_cons p p' hq, fun c F H σ δ vs ds Q ok rs post => ?_⟩
  unfold tsCons at post
  split at post
  · rename_i d ds
    unfold reps at rs
    obtain ⟨v, r, rfl, k1, k2⟩ := rs
    exact ⟨v, r, rfl, h1 c F H σ δ v (.imm d) _ ok k1 (PostS.bind post fun δ1 F1 H1 σ1 _ s1 ok1 post => h2 c F1 H1 σ1 δ1 r ds Q ok1 (reps_mono s1 _ _ k2) post)⟩
  · exact post.elim
def tTup (n : Nat) (hs : List D → Sl → SR) : R → Sl → SR := fun r δ => match r with
  | .imm (.tup ds) => if ds.length = n then hs ds δ else .bad
  | .imm (.ktp ns) => if ns.length = n then hs (ns.map D.int) δ else .bad
  | _ => .bad
theorem dg_tup {es : List Expr} {k n : Nat} {pos : Pos} {hs : List D → Sl → SR} (hc : X.calm = true) (h : DGs M W X es hs) (hK : X.K = M.K := by rfl) (hn : (assignEach es X.env).length = n := by rfl) (hst : (assignEach es X.env).findIdx? (·.1) = none := by rfl) : DG M W X (.Tuple es k pos) (tTup n hs) := by
  obtain ⟨g, p, h⟩ := h
  refine ⟨_, pg_tup hc p hn hst, fun c F H σ δ v r Q ok rr post => ?_⟩
  unfold tTup at post
  split at post
  · split at post
    · rename_i ds hl
      have z : rep M F (.tup ds) v := rr
      unfold rep at z
      obtain ⟨a, vs, rfl, h2, h3⟩ := z
      exact ⟨a, vs, rfl, by rw [hK]; exact SqT.of (ok.same _ _ h2), by rw [reps_length h3]; exact hl, h c F H σ δ vs ds Q ok h3 post⟩
    · exact post.elim
  · split at post
    · rename_i ns hl
      have z : rep M F (.ktp ns) v := rr
      unfold rep at z
      obtain ⟨a, rfl, h2⟩ := z
      exact ⟨a, _, rfl, by rw [hK]; exact itup_sq ok.same h2, by rw [List.length_map]; exact hl, h c F H σ δ _ _ Q ok (reps_kt ns) post⟩
    · exact post.elim
  · exact post.elim
def rSetAll : V → V → V → Hp → (Hp → Prop) → Prop := fun o i v H Q => rSetL o i v H Q ∨ ∃ a H', o = .ref a ∧ DPut H a i v H' ∧ Q H'
theorem set_all (hu : X.A.units + 1 < cLine) : PSet X rSetAll := by
  intro pins s σ H o i v ov iv u Q I ro ri rv h
  rcases h with h | ⟨a, H', rfl, g, q⟩
  · exact set_list pins s σ H o i v ov iv u Q I ro ri rv h
  · obtain rfl : ov = Value.ref a := ro
    exact d_setItem hu I g ri rv fun s4 I4 => ⟨H', I4, q⟩
def repD {κ : Type} [DecidableEq κ] (k : κ) (d : D) : List κ → List D → List D
  | k' :: ks, d' :: ds => (if k' = k then d else d') :: repD k d ks ds
  | _, ds => ds
def putD {κ : Type} [DecidableEq κ] (ks : List κ) (ds : List D) (k : κ) (d : D) : List κ × List D := if (ks.any fun k' => decide (k' = k)) = true then (ks, repD k d ks ds) else (ks ++ [k], ds ++ [d])
theorem putD_v {M : Gm} {F : Hp} {κ : Type} [DecidableEq κ] {v : V} {d : D} (hv : rep M F d v) (k : κ) {kvs : List (κ × V)} {ds : List D} (h : reps M F ds (kvs.map (·.2))) : (putK kvs k v).map (·.1) = (putD (kvs.map (·.1)) ds k d).1 ∧ reps M F (putD (kvs.map (·.1)) ds k d).2 ((putK kvs k v).map (·.2)) := by
  unfold putK putD
  have e : ((kvs.map (·.1)).any fun k' => decide (k' = k)) = kvs.any fun kv => decide (kv.1 = k) := by rw [List.any_map]; rfl
  rw [e]
  by_cases hc : (kvs.any fun kv => decide (kv.1 = k)) = true
  · rw [if_pos hc, if_pos hc]
    clear hc e
    constructor
    · rw [List.map_map]
      refine List.map_congr_left fun p _ => ?_
      simp only [Function.comp]
      split <;> rfl
    · show reps M F (repD k d (kvs.map (·.1)) ds) _
      induction kvs generalizing ds with
      | nil =>
        unfold reps at h
        cases ds with
        | nil => simp [repD, reps]
        | cons d' ds => obtain ⟨_, _, z, _⟩ := h; cases z
      | cons p r ih =>
        cases ds with
        | nil => unfold reps at h; cases h
        | cons d' ds =>
          rw [List.map_cons, reps_cons_iff] at h
          simp only [List.map_cons, repD]
          refine reps_cons ?_ (ih h.2)
          by_cases z : p.1 = k
          · rw [if_pos z, if_pos z]; exact hv
          · rw [if_neg z, if_neg z]; exact h.1
  · rw [if_neg hc, if_neg hc]
    exact ⟨by simp, by rw [List.map_append]; exact reps_append h (reps_cons hv reps_nil)⟩
def setOB : OB → D → D → Option OB
  | .l ds, .int i, d => (ixN ds.length i).map fun j => .l (ds.set j d)
  | .dK ks ds, k, d => (keyOf k).bind fun k => if ds.length < 16777216 then some (.dK (putD ks ds k d).1 (putD ks ds k d).2) else none
  | .dT ks ds, .tup kds, d => (keysOf kds).bind fun k => if ds.length < 16777216 then some (.dT (putD ks ds k d).1 (putD ks ds k d).2) else none
  | _, _, _ => none
def tSub (x : Nat) (fi : FD) : R → Sl → SR := fun r δ => match r with
  | .imm d => (match δ[x]? with
    | some (some r0) => if r0.mu then (fi δ).bindS fun i δ1 => match δ1[x]? with
      | some (some (.own o)) => (match setOB o i d with
        | some o' => .nx (δ1.set x (some (.own o')))
        | none => .bad)
      | some (some (.brw o)) => (match setOB o i d with
        | some o' => .nx (δ1.set x (some (.brw o')))
        | none => .bad)
      | _ => .bad
      else .bad
    | _ => .bad)
  | _ => .bad
theorem setOB_ok {F H : Hp} {ob ob' : OB} {a : Addr} {vi vd : V} {di d : D} {Q : Hp → Prop} (s : Same F H) (hob : obAt M F H ob a) (ri : rep M F di vi) (rd : rep M F d vd) (e : setOB ob di d = some ob') (q : ∀ o, obAt M F (upd H a o) ob' a → Q (upd H a o)) : rSetAll (.ref a) vi vd H Q := by
  unfold setOB at e
  split at e
  · rename_i ds i
    obtain ⟨j, e1, rfl⟩ := Option.map_eq_some_iff.mp e
    obtain ⟨vs, h1, h2⟩ := hob
    unfold rep at ri
    refine .inl ⟨a, vs, i, j, rfl, ri, h1, by rw [reps_length h2]; exact e1, q _ ⟨_, upd_same, reps_set j h2 rd⟩⟩
  · rename_i ks ds k
    obtain ⟨kk, e1, e2⟩ := Option.bind_eq_some_iff.mp e
    split at e2
    · rename_i hl
      cases e2
      obtain ⟨kvs, h1, h2, h3⟩ := hob
      subst h2
      obtain ⟨p1, p2⟩ := putD_v rd kk h3
      have ek := keyOf_v (M := M) (H := H) (.inl ri) e1
      subst ek
      refine .inr ⟨a, _, rfl, DPut.k h1 ?_, q _ ⟨_, upd_same, p1, p2⟩⟩
      have z := reps_length h3
      rw [List.length_map] at z
      rw [z, sizeLine_eq]; exact hl
    · cases e2
  · rename_i ks ds kds
    obtain ⟨kk, e1, e2⟩ := Option.bind_eq_some_iff.mp e
    split at e2
    · rename_i hl
      cases e2
      obtain ⟨kvs, h1, h2, h3⟩ := hob
      subst h2
      obtain ⟨p1, p2⟩ := putD_v rd kk h3
      obtain ⟨b, rfl, hb⟩ := prep_tupK s (.inl ri) e1
      refine .inr ⟨a, _, rfl, DPut.t h1 hb ?_, q _ ⟨_, upd_same, p1, p2⟩⟩
      have z := reps_length h3
      rw [List.length_map] at z
      rw [z, sizeLine_eq]; exact hl
    · cases e2
  · cases e
theorem dg_sub {o ie : Expr} {x : Nat} {pos : Pos} {fi : FD} (ho : PE X o (tVar x)) (hi : DI M W X ie fi) (hu : X.A.units + 1 < cLine)
    (ha : ∀ v, assign (.Subscript o ie pos) X.env v = (do
      let ov ← holding [v] (eval o X.env)
      let iv ← holding [v, ov] (eval ie X.env)
      standAt pos
      holding [v, ov, iv] (setItem ov iv v)
      release [v, ov, iv] []) := by intro _; rfl) : DG M W X (.Subscript o ie pos) (tSub x fi) := by
  obtain ⟨ti, pi, hi⟩ := hi
  refine ⟨_, pg_sub ho pi (set_all hu) ha, fun c F H σ δ v r Q ok rr post => ?_⟩
  unfold tSub at post
  cases r with
  | own o => exact post.elim
  | brw o => exact post.elim
  | nst _ _ => exact post.elim
  | imm d =>
    simp only at post
    split at post
    · rename_i r0 q0
      split at post
      · rename_i hm
        obtain ⟨a, ob0, ea, _, _, _⟩ := ok.mus q0 hm
        refine ⟨.ref a, ea, hi c F H σ δ _ ok (PostS.ofE post fun di δ1 vi F1 H1 _ s1 ok1 ri post => ?_)⟩
        split at post
        · rename_i ob q1
          split at post
          · rename_i ob' e1
            obtain ⟨a', ob1, ea', hf, hob, hk⟩ := ok1.mus q1 rfl
            rw [ea] at ea'; cases ea'
            rcases hk with ⟨z, _⟩ | ⟨z, _⟩ <;> cases z
            refine setOB_ok ok1.same hob ri (rep_mono s1 _ _ rr) e1 fun o' hob' => post F1 _ σ (Same.refl _) (ok1.write q1 (.inl ⟨rfl, rfl⟩) ea hob')
          · exact post.elim
        · rename_i ob q1
          split at post
          · rename_i ob' e1
            obtain ⟨a', ob1, ea', hf, hob, hk⟩ := ok1.mus q1 rfl
            rw [ea] at ea'; cases ea'
            rcases hk with ⟨z, _⟩ | ⟨z, _⟩ <;> cases z
            refine setOB_ok ok1.same hob ri (rep_mono s1 _ _ rr) e1 fun o' hob' => post F1 _ σ (Same.refl _) (ok1.write q1 (.inr ⟨rfl, rfl⟩) ea hob')
          · exact post.elim
        · exact post.elim
      · exact post.elim
    · exact post.elim
def sAsg (f : FE) (h : R → Sl → SR) : FS := fun δ => (f δ).bindS h
theorem asg_of {t : TE} {g : TG} {f : FE} {h : R → Sl → SR} (he : RE M W t f) (hg : ∀ (c : Cn M) F H σ δ v r (Q : St → Hp → Prop), Ok c F H σ δ → repR c F H σ δ r v → PostS c W F (h r δ) ⟨Q, fun _ _ => False, fun _ _ => False, fun _ _ => False⟩ → g v σ H Q)
    (hn : ∀ r δ, (∃ δ', h r δ = .nx δ') ∨ (∃ x δ', h r δ = .exc x δ') ∨ h r δ = .bad) : ∀ (c : Cn M) F H σ δ E, Ok c F H σ δ → PostS c W F (sAsg f h δ) E → tAsg t g E σ H := fun c F H σ δ E ok post =>
  he c F H σ δ _ ok (PostS.ofE post fun r δ1 v F1 H1 _ s ok1 rr post => hg c F1 H1 σ δ1 v r _ ok1 rr (by
    rcases hn r δ1 with ⟨δ', e⟩ | ⟨x, δ', e⟩ | e
    · rw [e] at post ⊢; exact post
    · rw [e] at post ⊢; exact post
    · rw [e] at post ⊢; exact post))
def Tgt (h : R → Sl → SR) : Prop := ∀ r δ, (∃ δ', h r δ = .nx δ') ∨ (∃ x δ', h r δ = .exc x δ') ∨ h r δ = .bad
def Tgs (h : List D → Sl → SR) : Prop := ∀ r δ, (∃ δ', h r δ = .nx δ') ∨ (∃ x δ', h r δ = .exc x δ') ∨ h r δ = .bad
theorem tgt_name (i : Nat) : Tgt (tName i) := fun r δ => by
  unfold tName
  cases r with
  | imm d => exact .inl ⟨_, rfl⟩
  | own d => exact .inl ⟨_, rfl⟩
  | brw d => exact .inr (.inr rfl)
  | nst _ _ => exact .inr (.inr rfl)
theorem tgs_nil : Tgs tsNil := fun r δ => by
  unfold tsNil
  cases r with
  | nil => exact .inl ⟨_, rfl⟩
  | cons d ds => exact .inr (.inr rfl)
theorem tgs_cons {h : R → Sl → SR} {hs : List D → Sl → SR} (h1 : Tgt h) (h2 : Tgs hs) : Tgs (tsCons h hs) := fun r δ => by
  unfold tsCons
  cases r with
  | nil => exact .inr (.inr rfl)
  | cons d ds =>
    simp only
    rcases h1 (.imm d) δ with ⟨δ', e⟩ | ⟨x, δ', e⟩ | e
    · rw [e]; exact h2 ds δ'
    · rw [e]; exact .inr (.inl ⟨x, δ', rfl⟩)
    · rw [e]; exact .inr (.inr rfl)
theorem tgt_tup {n : Nat} {hs : List D → Sl → SR} (h : Tgs hs) : Tgt (tTup n hs) := fun r δ => by
  unfold tTup
  split
  · split
    · exact h _ _
    · exact .inr (.inr rfl)
  · split
    · exact h _ _
    · exact .inr (.inr rfl)
  · exact .inr (.inr rfl)
theorem tgt_sub {x : Nat} {fi : FD} : Tgt (tSub x fi) := fun r δ => by
  unfold tSub
  split
  · split
    · split
      · cases fi δ with
        | bad => exact .inr (.inr rfl)
        | exc x δ' => exact .inr (.inl ⟨x, δ', rfl⟩)
        | ok d δ1 =>
          simp only [Res.bindS_ok]
          split
          · split
            · exact .inl ⟨_, rfl⟩
            · exact .inr (.inr rfl)
          · split
            · exact .inl ⟨_, rfl⟩
            · exact .inr (.inr rfl)
          · exact .inr (.inr rfl)
      · exact .inr (.inr rfl)
    · exact .inr (.inr rfl)
  · exact .inr (.inr rfl)
theorem ds_asg {tg e : Expr} {pos : Pos} {f : FE} {h : R → Sl → SR} (he : DE M W X e f) (hg : DG M W X tg h) (hn : Tgt h) (hs : swapsWithSole [tg] e pos.line X.env = pure false := by rfl) (hw : swappedStores [tg] e X.env = pure none := by rfl)
    (h1 : (assignEach [tg] X.env).map (·.2) = [assign tg X.env] := by rfl) : DS M W X (.Assign [tg] e pos) (sAsg f h) := by
  obtain ⟨t, p, he⟩ := he
  obtain ⟨g, pg, hg⟩ := hg
  exact ⟨_, ps_asg p pg hs hw h1, asg_of he hg hn⟩
theorem ds_set {i : Nat} {x : Str} {e : Expr} {pos pos' : Pos} {f : FE} (hN : X.N.Nodup) (hi : X.N[i]? = some x) (hx : Loc X.env.scope x) (he : DE M W X e f) (hs : swapsWith e (some (.Name x pos')) pos.line X.env = pure false := by rfl) (hf : X.fn x = true ∨ X.env.scope.names.lookup x = some .local := by first | exact .inl rfl | exact .inr rfl | assumption) :
    DS M W X (.Assign [.Name x pos'] e pos) (sAsg f (tName i)) := by
  obtain ⟨t, p, he⟩ := he
  refine ⟨_, ps_set hN hi hx p hs hf, asg_of he (fun c F H σ δ v r Q ok rr post => ?_) (tgt_name i)⟩
  unfold tName at post
  cases r with
  | imm d => exact post F H _ (Same.refl _) (ok.setI i rr)
  | own o => exact post F H _ (Same.refl _) (ok.setO i rr)
  | brw o => exact post.elim
  | nst _ _ => exact post.elim
def Cn.guard (c : Cn M) (a : Addr) (o : HO) (hn : NT o) : Cn M := ⟨c.F0, fun b => if b = a then some o else c.H0 b, c.io, fun b h => by
  by_cases e : b = a
  · simp [e]
  · simp only [if_neg e]; exact c.iob b h, fun b u h => by
  by_cases e : b = a
  · simp only [if_pos e] at h; cases h; exact hn
  · simp only [if_neg e] at h; exact c.nt b u h, c.nd, fun z hz b hb => by
  obtain ⟨h1, h2, h3⟩ := c.ndh z hz b hb
  refine ⟨?_, h2, h3⟩
  by_cases e : b = a
  · simp [e]
  · simp only [if_neg e]; exact h1⟩
theorem Ok.guard {a : Addr} {o : HO} (ok : Ok c F H σ δ) (hF : F a = none) (h0 : c.H0 a = none) (ho : H a = some o) (hn : NT o) (hns : ∀ (i : Nat) (r : R), δ[i]? = some (some r) → r.mu = true → σ[i]? ≠ some (some (V.ref a))) : Ok (c.guard a o hn) F H σ δ := by
  have hio : c.io ≠ some a := fun z => c.iob a z h0
  have g0 : ∀ b, b ≠ a → (c.guard a o hn).H0 b = c.H0 b := fun b hb => if_neg hb
  refine ⟨ok.same, ok.grow, fun b e1 e2 => ?_, fun b u e1 e2 => ?_, ok.ioh, ok.tb, ok.len, fun i r e => ?_, ok.dist⟩
  · by_cases z : b = a
    · rw [z]; exact hF
    · rw [g0 b z] at e1; exact ok.nofz b e1 e2
  · by_cases z : b = a
    · subst z
      have : (c.guard b o hn).H0 b = some o := if_pos rfl
      rw [this] at e1; cases e1
      exact ho
    · rw [g0 b z] at e1; exact ok.kept b u e1 e2
  · obtain ⟨v, e1, e2⟩ := ok.slot i r e
    refine ⟨v, e1, ?_⟩
    cases r with
    | imm d => exact e2
    | own ob =>
      obtain ⟨b, rfl, k1, k2, k3⟩ := e2
      have z : b ≠ a := fun z => hns i _ e rfl (by rw [e1, z])
      exact ⟨b, rfl, k1, by rw [g0 b z]; exact k2, k3⟩
    | brw ob => exact e2
    | nst tp ps =>
      obtain ⟨b, vs, h1, h2, h3⟩ := e2
      exact ⟨b, vs, h1, h2, h3.mono (Same.refl _) fun b' hb => g0 b' fun z => (c.ndh _ h2 b' hb).1 (z ▸ h0)⟩
theorem Ok.unguard {a : Addr} {o : HO} {hn : NT o} (ok : Ok (c.guard a o hn) F H σ δ) (h0 : c.H0 a = none) : Ok c F H σ δ ∧ (c.F0 a = none → F a = none) ∧ H a = some o ∧ (∀ (i : Nat) (r : R), δ[i]? = some (some r) → r.mu = true → σ[i]? ≠ some (some (V.ref a))) := by
  have hio : c.io ≠ some a := fun z => c.iob a z h0
  have g0 : ∀ b, b ≠ a → (c.guard a o hn).H0 b = c.H0 b := fun b hb => if_neg hb
  have ga : (c.guard a o hn).H0 a = some o := if_pos rfl
  have ne : ∀ b, c.H0 b ≠ none → b ≠ a := fun b h z => h (z ▸ h0)
  refine ⟨⟨ok.same, ok.grow, fun b e1 e2 => ok.nofz b (by rw [g0 b (ne b e1)]; exact e1) e2, fun b u e1 e2 => ok.kept b u (by rw [g0 b (ne b (by rw [e1]; exact fun z => by cases z))]; exact e1) e2, ok.ioh, ok.tb, ok.len, fun i r e => ?_, ok.dist⟩, fun hF => ok.nofz a (by rw [ga]; exact fun z => by cases z) hF, ok.kept a o ga hio, fun i r e m z => ?_⟩
  · obtain ⟨v, e1, e2⟩ := ok.slot i r e
    refine ⟨v, e1, ?_⟩
    cases r with
    | imm d => exact e2
    | own ob =>
      obtain ⟨b, rfl, k1, k2, k3⟩ := e2
      have z : b ≠ a := fun z => by rw [z, ga] at k2; cases k2
      exact ⟨b, rfl, k1, by rw [← g0 b z]; exact k2, k3⟩
    | brw ob => exact e2
    | nst tp ps =>
      obtain ⟨b, vs, h1, h2, h3⟩ := e2
      exact ⟨b, vs, h1, h2, h3.mono (Same.refl _) fun b' hb => (g0 b' fun z => (c.ndh _ h2 b' hb).1 (z ▸ h0)).symm⟩
  · obtain ⟨b, ob, e1, e2, e3, e4⟩ := ok.mus e m
    rw [e1] at z; cases z
    rcases e4 with ⟨_, k⟩ | ⟨_, k⟩
    · rw [ga] at k; cases k
    · exact hio k
def sPar (i j : Nat) (f g : FE) : FS := fun δ => (f δ).bindS fun r δ1 => match r with
  | .brw _ => .bad
  | .nst _ _ => .bad
  | r => (g δ1).bindS fun r' δ2 => match r' with
    | .brw _ => .bad
    | .nst _ _ => .bad
    | r' => .nx ((δ2.set i (some r)).set j (some r'))
theorem repR_setI {d : D} {v w : V} {r : R} {i : Nat} (h : repR c F H σ δ r w) : repR c F H (σ.set i (some v)) (δ.set i (some (.imm d))) r w := by
  have key : ∀ a : Addr, (∀ (k : Nat) (r : R), δ[k]? = some (some r) → r.mu = true → σ[k]? ≠ some (some (V.ref a))) → ∀ (k : Nat) (r : R), (δ.set i (some (.imm d)))[k]? = some (some r) → r.mu = true → (σ.set i (some v))[k]? ≠ some (some (V.ref a)) := fun a h4 k r e m => by
    rcases getElem?_set_some e with ⟨_, z, _⟩ | ⟨hn, e⟩
    · cases z; cases m
    · rw [List.getElem?_set_ne hn]; exact h4 k r e m
  cases r with
  | imm d' => exact h
  | brw o => exact h
  | own o =>
    obtain ⟨a, rfl, h1, h2, h3, h4⟩ := h
    exact ⟨a, rfl, h1, h2, h3, key a h4⟩
  | nst tp ps =>
    obtain ⟨a, vs, h1, h2, h3⟩ := h
    exact ⟨a, vs, h1, h2, fun b hb => ⟨(h3 b hb).1, (h3 b hb).2.1, key b (h3 b hb).2.2⟩⟩
theorem ds_par {i j : Nat} {x y : Str} {a b : Expr} {f g : FE} {px py pt pos : Pos} {kt k2 pt2} (hc : X.calm = true) (hN : X.N.Nodup) (hi : X.N[i]? = some x) (hj : X.N[j]? = some y) (hij : i ≠ j)
    (hx : X.env.scope.names.lookup x = some .local) (hy : X.env.scope.names.lookup y = some .local) (ha : DE M W X a f) (hb : DE M W X b g)
    (hw : swappedStores [.Tuple [.Name x px, .Name y py] kt pt] (.Tuple [a, b] k2 pt2) X.env = pure (some [x, y]))
    (hs : swapsWithSole [.Tuple [.Name x px, .Name y py] kt pt] (.Tuple [a, b] k2 pt2) pos.line X.env = pure false := by rfl)
    (h1 : starEach (a :: [b]) X.env = (false, eval a X.env) :: starEach [b] X.env := by rfl) (h2 : starEach (b :: []) X.env = (false, eval b X.env) :: starEach [] X.env := by rfl) :
    DS M W X (.Assign [.Tuple [.Name x px, .Name y py] kt pt] (.Tuple [a, b] k2 pt2) pos) (sPar i j f g) := by
  obtain ⟨t, p, ha⟩ := ha
  obtain ⟨t', p', hb⟩ := hb
  refine ⟨_, ps_par hc hN hi hj hij hx hy (pa_cons p (pa_cons p' pa_nil h2) h1) hw hs, fun c F H σ δ E ok post => ha c F H σ δ _ ok (PostS.ofE post fun r δ1 v F1 H1 _ s1 ok1 rr post => ?_)⟩
  cases r with
  | brw o => exact post.elim
  | nst _ _ => exact post.elim
  | imm d =>
    refine hb c F1 H1 σ δ1 _ ok1 (PostS.ofE post fun r' δ2 w F2 H2 _ s2 ok2 rr' post => ⟨v, w, rfl, ?_⟩)
    have rv : rep M F2 d v := rep_mono s2 _ _ rr
    cases r' with
    | brw o => exact post.elim
    | nst _ _ => exact post.elim
    | imm d' => exact post F2 H2 _ (Same.refl _) ((ok2.setI i rv).setI j rr')
    | own o' => exact post F2 H2 _ (Same.refl _) ((ok2.setI i rv).setO j (repR_setI rr'))
  | own o =>
    obtain ⟨a, rfl, k1, k2, k3, k4⟩ := rr
    obtain ⟨u, hu, hn⟩ := obAt_nt k3
    have okg := ok1.guard k1 k2 hu hn k4
    have f0 : c.F0 a = none := by
      cases z : c.F0 a with
      | none => rfl
      | some q => rw [ok1.grow a q z] at k1; cases k1
    have un : ∀ {F2 H2 : Hp} {δ2 : Sl}, Same F1 F2 → Ok (c.guard a u hn) F2 H2 σ δ2 → Ok c F2 H2 σ δ2 ∧ repR c F2 H2 σ δ2 (.own o) (.ref a) := fun {F2 H2 δ2} g ok2 => by
      obtain ⟨q1, q2, q3, q4⟩ := ok2.unguard k2
      exact ⟨q1, a, rfl, q2 f0, k2, obAt_mono g (q3.trans hu.symm) k3, q4⟩
    refine hb (c.guard a u hn) F1 H1 σ δ1 _ okg ?_
    cases q : g δ1 with
    | bad => rw [q] at post; exact post
    | exc x δ2 => rw [q] at post; exact fun cls d F2 H2 g ok2 xa => post cls d F2 H2 σ g (un g ok2).1 xa
    | ok r' δ2 =>
      rw [q] at post
      intro w F2 H2 s2 ok2 rr'
      refine ⟨.ref a, w, rfl, ?_⟩
      obtain ⟨ok3, ro⟩ := un s2 ok2
      cases r' with
      | brw o => exact post.elim
      | nst _ _ => exact post.elim
      | imm d' => exact post F2 H2 _ s2 ((ok3.setO i ro).setI j rr')
      | own o' =>
        obtain ⟨b, rfl, l1, l2, l3, l4⟩ := rr'
        have hba : b ≠ a := fun z => by
          have : (c.guard a u hn).H0 a = some u := if_pos rfl
          rw [z, this] at l2; cases l2
        have l2' : c.H0 b = none := by
          have : (c.guard a u hn).H0 b = c.H0 b := if_neg hba
          rw [← this]; exact l2
        refine post F2 H2 _ s2 ((ok3.setO i ro).setO j ⟨b, rfl, l1, l2', l3, fun k r e m => ?_⟩)
        rcases getElem?_set_some e with ⟨rfl, z, hl⟩ | ⟨hn, e⟩
        · rw [List.getElem?_set_self (by rw [ok3.len]; exact hl)]
          intro z; cases z; exact hba rfl
        · rw [List.getElem?_set_ne hn]; exact l4 k r e m
end
end
end TS

namespace TS
open PySem L2
noncomputable section
def ovH (F fr : Hp) : Hp := fun b => match F b with
  | some o => some o
  | none => fr b
def Yl (M : Gm) (F H : Hp) (x : V) (H' : Hp) (d : D) : Prop := ∃ fr : Hp, (∀ b o, fr b = some o → (∃ ws, o = HO.tup ws) ∧ H' b = some o) ∧ Same H H' ∧ rep M (ovH F fr) d x
theorem ovH_grow {F fr : Hp} : Same F (ovH F fr) := fun b o e => by unfold ovH; rw [e]
theorem Yl.same {M : Gm} {F H : Hp} {x : V} {H' : Hp} {d : D} (e : H' = H) (r : rep M F d x) : Yl M F H x H' d :=
  ⟨fun _ => none, (fun _ _ z => by cases z), by rw [e]; exact Same.refl _, rep_mono ovH_grow _ _ r⟩
theorem Yl.new {M : Gm} {F H : Hp} {x : V} {H' : Hp} {d : D} (s : Same F H) {p : Addr} {ws : List V} {es : List D} (k1 : H p = none) (k2 : x = V.ref p) (k3 : H' = upd H p (.tup ws)) (k4 : d = .tup es) (r : reps M F es ws) : Yl M F H x H' d := by
  subst k2 k3 k4
  refine ⟨fun b => if b = p then some (.tup ws) else none, fun b o e => ?_, fun b o e => by rw [upd_ne (ne_of_none e k1)]; exact e, ?_⟩
  · dsimp only at e
    by_cases z : b = p
    · subst z; rw [if_pos rfl] at e; cases e; exact ⟨⟨_, rfl⟩, upd_same⟩
    · rw [if_neg z] at e; cases e
  · unfold rep
    refine ⟨p, ws, rfl, ?_, reps_mono ovH_grow _ _ r⟩
    unfold ovH
    rw [s.free k1]
    simp
theorem Yl.stp {M : Gm} {F F2 H : Hp} {x : V} {H' : Hp} {d : D} (y : Yl M F H x H' d) (g : Same F F2) (s : Same F2 H) (tb : Tb M F2 H) : ∃ F3, Stp M F2 H F3 H' none ∧ rep M F3 d x := by
  obtain ⟨fr, h1, h2, h3⟩ := y
  have sm : Same (ovH F2 fr) H' := fun b o e => by
    unfold ovH at e
    split at e
    · rename_i o' e'; cases e; exact h2 _ _ (s _ _ e')
    · exact (h1 b o e).2
  refine ⟨ovH F2 fr, ⟨ovH_grow, fun b o e n z => ?_, fun b o e n _ => h2 b o e, sm, ?_⟩, rep_mono (fun b o e => ?_) _ _ h3⟩
  · unfold ovH
    rw [z]
    cases q : fr b with
    | none => rfl
    | some o' =>
      obtain ⟨⟨ws, rfl⟩, q2⟩ := h1 b o' q
      rw [h2 b o e] at q2; cases q2; cases n
  · refine (tb.keep (fun b o e _ => h2 b o e) (fun b o e n z => z) tb.nt).keep (fun b o e _ => e) (fun b o e n z => ?_) fun b ps e => ?_
    · unfold ovH
      rw [z]
      cases q : fr b with
      | none => rfl
      | some o' =>
        obtain ⟨⟨ws, rfl⟩, q2⟩ := h1 b o' q
        rw [e] at q2; cases q2; exact absurd rfl n
    · unfold ovH at e
      split at e
      · rename_i o' e'; cases e; exact tb.nt b ps e'
      · obtain ⟨⟨ws, z⟩, _⟩ := h1 b _ e; cases z
  · unfold ovH at e ⊢
    split at e
    · rename_i o' e'; cases e; rw [g _ _ e']
    · cases q : F2 b with
      | none => exact e
      | some o2 =>
        have := h2 _ _ (s _ _ q)
        rw [(h1 b o e).2] at this
        cases this; rfl
def Walks (M : Gm) (J : It) (F : Hp) (ds : List D) : Prop := ∀ (i : Nat) (H : Hp), Same F H →
  (∀ d, ds[i]? = some d → J.go i H ∧ ∀ x H', J.yld i H x H' → Yl M F H x H' d) ∧ (ds[i]? = none → J.stop i H)
abbrev ρI (M : Gm) : Hp → Hp → Sl → List D → It → Prop := fun F _ _ ds J => Walks M J F ds
def DIt (M : Gm) (W : WX) (X : Cx) (tg e : Expr) (f : FA) : Prop := ∃ wi, PI X tg e wi ∧ ∀ (c : Cn M) F H σ δ (Q : It → Hp → Prop), Ok c F H σ δ → Post c W F σ (ρI M) (f δ) Q → wi σ H Q
section
variable {M : Gm} {c : Cn M} {W : WX} {X : Cx} {tg e : Expr} {F F1 H H1 : Hp} {σ : St} {δ : Sl}
theorem walks_list {a : Addr} {vs : List V} {ds : List D} (hK : X.K = M.K) (hF : F a = some (.lst vs)) (r : reps M F ds vs) : Walks M (Itl X.K a) F ds := fun i H s => by
  have hq : SqL X.K H a vs := SqL.of (s _ _ hF)
  refine ⟨fun d hd => ?_, fun hn => ⟨vs, hq, by rw [reps_length r]; exact List.getElem?_eq_none_iff.mp hn⟩⟩
  obtain ⟨v, e1, e2⟩ := reps_get r hd
  refine ⟨⟨vs, v, hq, e1⟩, fun x H' y => Yl.same y.1 ?_⟩
  have := y.2 vs hq
  rw [e1] at this; cases this
  exact e2
theorem walks_tup {a : Addr} {vs : List V} {ds : List D} (hK : X.K = M.K) (hF : SqT M.K F a vs) (r : reps M F ds vs) : Walks M (Itt X.K a) F ds := fun i H s => by
  have hq : SqT X.K H a vs := by rw [hK]; exact Same.seqT s hF
  refine ⟨fun d hd => ?_, fun hn => ⟨vs, hq, by rw [reps_length r]; exact List.getElem?_eq_none_iff.mp hn⟩⟩
  obtain ⟨v, e1, e2⟩ := reps_get r hd
  refine ⟨⟨vs, v, hq, e1⟩, fun x H' y => Yl.same y.1 ?_⟩
  have := y.2 vs hq
  rw [e1] at this; cases this
  exact e2
theorem rgD_get {lo : Int} {n i : Nat} : ((List.range n).map fun i => D.int (lo + (i : Nat)))[i]? = if i < n then some (.int (lo + (i : Nat))) else none := by
  rw [List.getElem?_map]
  by_cases h : i < n
  · rw [if_pos h, List.getElem?_range h]; rfl
  · rw [if_neg h, List.getElem?_eq_none (by simpa using h)]; rfl
theorem walks_range (lo : Int) (n : Nat) : Walks M (Itr lo n) F ((List.range n).map fun i => D.int (lo + (i : Nat))) := fun i H s => by
  rw [rgD_get]
  refine ⟨fun d hd => ?_, fun hn => ?_⟩
  · by_cases h : i < n
    · rw [if_pos h] at hd
      cases hd
      refine ⟨h, fun x H' y => Yl.same y.1 ?_⟩
      rw [y.2]; exact rep_int' _
    · rw [if_neg h] at hd; cases hd
  · by_cases h : i < n
    · rw [if_pos h] at hn; cases hn
    · exact Nat.le_of_not_lt h
def enumD (k : Nat) : List D → List D
  | [] => []
  | d :: ds => .tup [.int k, d] :: enumD (k + 1) ds
theorem enumD_get : ∀ (ds : List D) (k i : Nat), (enumD k ds)[i]? = (ds[i]?).map fun d => .tup [.int ((k + i : Nat) : Int), d]
  | [], k, i => by simp [enumD]
  | d :: ds, k, 0 => by simp [enumD]
  | d :: ds, k, i + 1 => by
    simp only [enumD, List.getElem?_cons_succ]
    rw [enumD_get ds (k + 1) i]
    have : k + 1 + i = k + (i + 1) := by omega
    rw [this]
theorem walks_enum {a : Addr} {vs : List V} {ds : List D} (hK : X.K = M.K) (hF : F a = some (.lst vs)) (r : reps M F ds vs) : Walks M (Ite X.K a) F (enumD 0 ds) := fun i H s => by
  have hq : SqL X.K H a vs := SqL.of (s _ _ hF)
  rw [enumD_get]
  refine ⟨fun d hd => ?_, fun hn => ⟨vs, hq, ?_⟩⟩
  · obtain ⟨d0, hd0, rfl⟩ := Option.map_eq_some_iff.mp hd
    obtain ⟨v, e1, e2⟩ := reps_get r hd0
    refine ⟨⟨vs, v, hq, e1⟩, fun x H' y => ?_⟩
    obtain ⟨T, x0, k1, k2, k3, k4⟩ := y
    have := k4 vs hq
    rw [e1] at this; cases this
    exact Yl.new s k2 k1 k3 rfl (reps_cons (by rw [Nat.zero_add]; exact rep_int' _) (reps_cons e2 reps_nil))
  · rw [reps_length r]
    exact List.getElem?_eq_none_iff.mp (by simpa using hn)
def zipD : List D → List D → List D
  | a :: as, b :: bs => .tup [a, b] :: zipD as bs
  | _, _ => []
theorem zipD_get : ∀ (as bs : List D) (i : Nat), (zipD as bs)[i]? = match as[i]?, bs[i]? with | some a, some b => some (.tup [a, b]) | _, _ => none
  | [], bs, i => by simp [zipD]
  | a :: as, [], i => by
    simp only [zipD]
    cases (a :: as)[i]? <;> simp
  | a :: as, b :: bs, 0 => by simp [zipD]
  | a :: as, b :: bs, i + 1 => by
    simp only [zipD, List.getElem?_cons_succ]
    exact zipD_get as bs i
theorem walks_zip {a b : Addr} {vs ws : List V} {ds es : List D} (hK : X.K = M.K) (hF : F a = some (.lst vs)) (r : reps M F ds vs) (hF' : F b = some (.lst ws)) (r' : reps M F es ws) : Walks M (Itz X.K a b) F (zipD ds es) := fun i H s => by
  have hq : SqL X.K H a vs := SqL.of (s _ _ hF)
  have hq' : SqL X.K H b ws := SqL.of (s _ _ hF')
  rw [zipD_get]
  refine ⟨fun d hd => ?_, fun hn => ⟨vs, ws, hq, hq', ?_⟩⟩
  · split at hd
    · rename_i x y h1 h2
      cases hd
      obtain ⟨v, e1, e2⟩ := reps_get r h1
      obtain ⟨w, f1, f2⟩ := reps_get r' h2
      refine ⟨⟨vs, ws, v, w, hq, hq', e1, f1⟩, fun x H' y => ?_⟩
      obtain ⟨T, x0, y0, k1, k2, k3, k4, k5⟩ := y
      have := k4 vs hq
      rw [e1] at this; cases this
      have := k5 ws hq'
      rw [f1] at this; cases this
      exact Yl.new s k2 k1 k3 rfl (reps_cons e2 (reps_cons f2 reps_nil))
    · cases hd
  · rw [reps_length r, reps_length r']
    by_cases h1 : ds.length ≤ i
    · exact .inl h1
    · right
      have h1' : i < ds.length := Nat.lt_of_not_le h1
      rw [List.getElem?_eq_getElem h1'] at hn
      cases h2 : es[i]? with
      | none => exact List.getElem?_eq_none_iff.mp h2
      | some y => rw [h2] at hn; cases hn
def itSeq (f : FD) : FA := fun δ => (f δ).bind fun d δ => match d with
  | .lst ds => .ok ds δ
  | _ => .bad
def itTup (f : FD) : FA := fun δ => (f δ).bind fun d δ => match d with
  | .tup ds => .ok ds δ
  | .ktp ns => .ok (ns.map D.int) δ
  | _ => .bad
def itRg1 (f : FD) : FA := fun δ => (f δ).bind fun d δ => match d with
  | .int n => if gd (-4611686018427387904 ≤ n ∧ n < 4611686018427387904) then .ok (rgD 0 n) δ else .bad
  | _ => .bad
def itRg2 (f g : FD) : FA := fun δ => (f δ).bind fun d δ => (g δ).bind fun d' δ => match d, d' with
  | .int m, .int n => if gd (-4611686018427387904 ≤ m ∧ m < 4611686018427387904 ∧ -4611686018427387904 ≤ n ∧ n < 4611686018427387904) then .ok (rgD m n) δ else .bad
  | _, _ => .bad
def itEnum (f : FD) : FA := fun δ => (f δ).bind fun d δ => match d with
  | .lst ds => .ok (enumD 0 ds) δ
  | _ => .bad
def itZip (f g : FD) : FA := fun δ => (f δ).bind fun d δ => (g δ).bind fun d' δ => match d, d' with
  | .lst m, .lst n => .ok (zipD m n) δ
  | _, _ => .bad
theorem dit_list {f : FD} (h : DI M W X e f) (hK : X.K = M.K := by rfl) : DIt M W X tg e (itSeq f) := by
  obtain ⟨t, p, h⟩ := h
  refine ⟨_, pi_list p, fun c F H σ δ Q ok post => h c F H σ δ _ ok (Post.bind post fun d δ1 v F1 H1 _ s1 ok1 r post => ?_)⟩
  split at post
  · unfold ρD rep at r
    obtain ⟨a, vs, rfl, h2, h3⟩ := r
    exact ⟨a, rfl, ⟨vs, SqL.of (ok1.same _ _ h2)⟩, post.ok ok1 (walks_list hK h2 h3)⟩
  · exact post.elim
theorem dit_tup {f : FD} (h : DI M W X e f) (hK : X.K = M.K := by rfl) : DIt M W X tg e (itTup f) := by
  obtain ⟨t, p, h⟩ := h
  refine ⟨_, pi_tup p, fun c F H σ δ Q ok post => h c F H σ δ _ ok (Post.bind post fun d δ1 v F1 H1 _ s1 ok1 r post => ?_)⟩
  split at post
  · unfold ρD rep at r
    obtain ⟨a, vs, rfl, h2, h3⟩ := r
    exact ⟨a, rfl, ⟨vs, by rw [hK]; exact SqT.of (ok1.same _ _ h2)⟩, post.ok ok1 (walks_tup hK (SqT.of h2) h3)⟩
  · unfold ρD rep at r
    obtain ⟨a, rfl, h2⟩ := r
    exact ⟨a, rfl, ⟨_, by rw [hK]; exact itup_sq ok1.same h2⟩, post.ok ok1 (walks_tup hK (itup_sq (Same.refl _) h2) (reps_kt _))⟩
  · exact post.elim
theorem dit_rg1 {a : Expr} {f : FD} {p pos : Pos} (hg : Gl X "range") (hm : X.mg "range" = none) (h : DI M W X a f) (hs : starEach [a] X.env = [(false, eval a X.env)] := by rfl) (hs2 : starEach (a :: []) X.env = (false, eval a X.env) :: starEach [] X.env := by rfl) : DIt M W X tg (.Call (.Name "range" p) [a] [] pos) (itRg1 f) := by
  obtain ⟨t, pp, h⟩ := h
  refine ⟨_, pi_range1 hg hm (pa_cons pp pa_nil hs2) hs, fun c F H σ δ Q ok post => h c F H σ δ _ ok (Post.bind post fun d δ1 v F1 H1 _ s1 ok1 r post => ?_)⟩
  split at post
  · rename_i n _
    split at post
    · rename_i hc
      obtain ⟨h1, h2⟩ := of_gd hc
      unfold ρD rep at r
      subst r
      refine ⟨n, rfl, by omega, by omega, post.ok ok1 ?_⟩
      have := walks_range (M := M) (F := F1) 0 n.toNat
      unfold rgD
      rw [Int.sub_zero]
      exact this
    · exact post.elim
  · exact post.elim
theorem dit_rg2 {a b : Expr} {f g : FD} {p pos : Pos} (hg : Gl X "range") (hm : X.mg "range" = none) (h : DI M W X a f) (h' : DI M W X b g) (hs : starEach [a, b] X.env = [(false, eval a X.env), (false, eval b X.env)] := by rfl) (hs2 : starEach [b] X.env = [(false, eval b X.env)] := by rfl)
    (hs3 : starEach (a :: [b]) X.env = (false, eval a X.env) :: starEach [b] X.env := by rfl) (hs4 : starEach (b :: []) X.env = (false, eval b X.env) :: starEach [] X.env := by rfl) : DIt M W X tg (.Call (.Name "range" p) [a, b] [] pos) (itRg2 f g) := by
  obtain ⟨t, pp, h⟩ := h
  obtain ⟨t', pp', h'⟩ := h'
  refine ⟨_, pi_range2 hg hm (pa_cons pp (pa_cons pp' pa_nil hs4) hs3) hs hs2, fun c F H σ δ Q ok post => h c F H σ δ _ ok (Post.bind post fun d δ1 v F1 H1 _ s1 ok1 r post => h' c F1 H1 σ δ1 _ ok1 (Post.bind post fun d' δ2 v' F2 H2 _ s2 ok2 r' post => ?_))⟩
  obtain ⟨m, rfl⟩ : ∃ m, d = .int m := by cases d <;> first | exact ⟨_, rfl⟩ | exact post.elim
  obtain ⟨n, rfl⟩ : ∃ n, d' = .int n := by cases d' <;> first | exact ⟨_, rfl⟩ | exact post.elim
  simp only at post
  split at post
  · rename_i hc
    obtain ⟨h1, h2, h3, h4⟩ := of_gd hc
    unfold ρD rep at r r'
    subst r
    subst r'
    exact ⟨m, n, rfl, ⟨by omega, by omega, by omega, by omega⟩, post.ok ok2 (walks_range (M := M) (F := F2) m (n - m).toNat)⟩
  · exact post.elim
theorem dit_enum {a : Expr} {f : FD} {p pos tpos : Pos} {elts : List Expr} {kk : Nat} (hg : Gl X "enumerate") (hm : X.mg "enumerate" = none) (h : DI M W X a f) (hK : X.K = M.K := by rfl) (hs : starEach [a] X.env = [(false, eval a X.env)] := by rfl) (hs2 : starEach (a :: []) X.env = (false, eval a X.env) :: starEach [] X.env := by rfl) :
    DIt M W X (.Tuple elts kk tpos) (.Call (.Name "enumerate" p) [a] [] pos) (itEnum f) := by
  obtain ⟨t, pp, h⟩ := h
  refine ⟨_, pi_enum hg hm (pa_cons pp pa_nil hs2) hs, fun c F H σ δ Q ok post => h c F H σ δ _ ok (Post.bind post fun d δ1 v F1 H1 _ s1 ok1 r post => ?_)⟩
  split at post
  · unfold ρD rep at r
    obtain ⟨a, vs, rfl, h2, h3⟩ := r
    exact ⟨a, vs, rfl, SqL.of (ok1.same _ _ h2), post.ok ok1 (walks_enum hK h2 h3)⟩
  · exact post.elim
theorem dit_zip {a b : Expr} {f g : FD} {p pos tpos : Pos} {elts : List Expr} {kk : Nat} (hg : Gl X "zip") (hm : X.mg "zip" = none) (h : DI M W X a f) (h' : DI M W X b g) (hK : X.K = M.K := by rfl)
    (hs : starEach [a, b] X.env = (false, eval a X.env) :: starEach [b] X.env := by rfl) (hpl : (backTo pos (starEach [b] X.env)).any (·.1) = false := by rfl) (hs4 : starEach (b :: []) X.env = (false, eval b X.env) :: starEach [] X.env := by rfl) :
    DIt M W X (.Tuple elts kk tpos) (.Call (.Name "zip" p) [a, b] [] pos) (itZip f g) := by
  obtain ⟨t, pp, h⟩ := h
  obtain ⟨t', pp', h'⟩ := h'
  refine ⟨_, pi_zip hg hm (pa_cons pp (pa_cons pp' pa_nil hs4) hs) hs hpl, fun c F H σ δ Q ok post => h c F H σ δ _ ok (Post.bind post fun d δ1 v F1 H1 _ s1 ok1 r post => h' c F1 H1 σ δ1 _ ok1 (Post.bind post fun d' δ2 v' F2 H2 _ s2 ok2 r' post => ?_))⟩
  obtain ⟨m, rfl⟩ : ∃ m, d = .lst m := by cases d <;> first | exact ⟨_, rfl⟩ | exact post.elim
  obtain ⟨n, rfl⟩ : ∃ n, d' = .lst n := by cases d' <;> first | exact ⟨_, rfl⟩ | exact post.elim
  simp only at post
  have r := rep_mono s2 _ _ r
  unfold rep at r
  unfold ρD rep at r'
  obtain ⟨a, vs, rfl, h2, h3⟩ := r
  obtain ⟨b, ws, rfl, k2, k3⟩ := r'
  exact ⟨a, b, vs, ws, rfl, SqL.of (ok2.same _ _ h2), SqL.of (ok2.same _ _ k2), post.ok ok2 (walks_zip hK h2 h3 k2 k3)⟩
def forL (tg : R → Sl → SR) (body : FS) : List D → FS
  | [], δ => .nx δ
  | d :: ds, δ => match (tg (.imm d) δ).bind body with
    | .nx δ' => forL tg body ds δ'
    | .ct δ' => forL tg body ds δ'
    | .bk δ' => .nx δ'
    | r => r
def sFor (fi : FA) (tg : R → Sl → SR) (body : FS) : FS := fun δ => (fi δ).bindS fun ds δ1 => forL tg body ds δ1
theorem Walks.turn {J : It} {F0 : Hp} {ds : List D} (w : Walks M J F0 ds) (g : Same F0 F) (ok : Ok c F H σ δ) {i : Nat} {d : D} (hd : ds[i]? = some d) : J.go i H ∧ ∀ x H', J.yld i H x H' → ∃ F', Same F F' ∧ Ok c F' H' σ δ ∧ rep M F' d x := by
  obtain ⟨h1, h2⟩ := (w i H (g.trans ok.same)).1 d hd
  refine ⟨h1, fun x H' y => ?_⟩
  obtain ⟨F3, st, r⟩ := (h2 x H' y).stp g ok.same ok.tb
  exact ⟨F3, st.grow, ok.stp st, r⟩
theorem ds_for {iter : Expr} {ss : List Stmt} {pos : Pos} {fi : FA} {ft : R → Sl → SR} {body : FS} (hp : PassesOwn (model X.prog X.w) X.A X.env X.xe) (hc : X.calm = true) (hi : DIt M W X tg iter fi) (hg : DG M W X tg ft) (hn : Tgt ft) (hb : DSs M W X ss body)
    (hs : ∀ x, foldedSetIterable iter X.env x = pure x := by intro _; rfl) : DS M W X (.For tg iter ss [] pos) (sFor fi ft body) := by
  obtain ⟨wi, pi, hi⟩ := hi
  obtain ⟨g, pg, hg⟩ := hg
  obtain ⟨tb, pb, hb⟩ := hb
  refine ⟨_, ps_for hp hc pi pg pb hs, fun c F H σ δ E ok post => hi c F H σ δ _ ok (PostS.ofE post fun ds δ1 J F1 H1 _ s1 ok1 wk post => ?_)⟩
  refine ⟨fun i m σ H => i ≤ ds.length ∧ m = ds.length - i ∧ ∃ F' δ', Same F1 F' ∧ Ok c F' H σ δ' ∧ PostS c W F' (forL ft body (ds.drop i) δ') E, ⟨ds.length, Nat.zero_le _, rfl, F1, δ1, Same.refl _, ok1, post⟩, ?_⟩
  rintro i m σ2 H2 ⟨hi, rfl, F2, δ2, g2, ok2, post⟩
  by_cases hl : i < ds.length
  · right
    have hd : ds[i]? = some ds[i] := List.getElem?_eq_getElem hl
    obtain ⟨k1, k2⟩ := Walks.turn wk g2 ok2 hd
    refine ⟨k1, fun σ' H' => ∃ F' δ', Same F1 F' ∧ Ok c F' H' σ' δ' ∧ PostS c W F' (forL ft body (ds.drop (i + 1)) δ') E, fun σ' H' h => ⟨ds.length - (i + 1), by omega, by omega, rfl, h⟩, fun x H' y => ?_⟩
    obtain ⟨F3, g3, ok3, r3⟩ := k2 x H' y
    rw [List.drop_eq_getElem_cons hl] at post
    unfold forL at post
    refine hg c F3 H' σ2 δ2 x (.imm ds[i]) _ ok3 r3 ?_
    have post := PostS.shift post g3
    rcases hn (.imm ds[i]) δ2 with ⟨δ3, e3⟩ | ⟨xx, δ3, e3⟩ | e3
    · rw [e3] at post ⊢
      simp only [SR.bind_nx] at post
      intro F4 H4 σ4 g4 ok4
      refine hb c F4 H4 σ4 δ3 _ ok4 ?_
      have post := PostS.shift post g4
      have gg : Same F1 F4 := (g2.trans g3).trans g4
      cases q : body δ3 with
      | nx δ5 => rw [q] at post; exact fun F5 H5 σ5 g5 ok5 => ⟨F5, δ5, gg.trans g5, ok5, PostS.shift post g5⟩
      | ct δ5 => rw [q] at post; exact fun F5 H5 σ5 g5 ok5 => ⟨F5, δ5, gg.trans g5, ok5, PostS.shift post g5⟩
      | bk δ5 => rw [q] at post; exact post
      | rt r δ5 => rw [q] at post; exact post
      | exc x δ5 => rw [q] at post; exact post
      | bad => rw [q] at post; exact post
    · rw [e3] at post ⊢; exact post
    · rw [e3] at post; exact post.elim
  · left
    have hi' : i = ds.length := by omega
    subst hi'
    refine ⟨(wk _ H2 (g2.trans ok2.same)).2 (List.getElem?_eq_none (Nat.le_refl _)), ?_⟩
    rw [List.drop_length] at post
    exact post F2 H2 σ2 (Same.refl _) ok2
def whileL (t : FT) (body : FS) : Nat → FS
  | 0, _ => .bad
  | n + 1, δ => (t δ).bindS fun b δ1 => if b then (match body δ1 with
    | .nx δ' => whileL t body n δ'
    | .ct δ' => whileL t body n δ'
    | .bk δ' => .nx δ'
    | r => r) else .nx δ1
def sWhile (μ : Sl → Nat) (t : FT) (body : FS) : FS := fun δ => whileL t body (μ δ) δ
theorem ds_while {cnd : Expr} {ss : List Stmt} {pos : Pos} {t : FT} {body : FS} (μ : Sl → Nat) (hp : PassesOwn (model X.prog X.w) X.A X.env X.xe) (hc : DT M W X cnd t) (hb : DSs M W X ss body) : DS M W X (.While cnd ss [] pos) (sWhile μ t body) := by
  obtain ⟨tc, pc, hc⟩ := hc
  obtain ⟨tb, pb, hb⟩ := hb
  refine ⟨_, ps_while hp pc pb, fun c F H σ δ E ok post => ?_⟩
  refine ⟨fun m σ H => ∃ F' δ', Same F F' ∧ Ok c F' H σ δ' ∧ PostS c W F' (whileL t body m δ') E, ⟨μ δ, F, δ, Same.refl _, ok, post⟩, ?_⟩
  rintro m σ2 H2 ⟨F2, δ2, g2, ok2, post⟩
  cases m with
  | zero => exact post.elim
  | succ n =>
    unfold whileL at post
    refine hc c F2 H2 σ2 δ2 _ ok2 (PostS.ofE post fun b δ3 k F3 H3 _ g3 ok3 e post => ?_)
    cases (show b = k from e)
    cases b with
    | false => exact post F3 H3 σ2 (Same.refl _) ok3
    | true =>
      refine ⟨fun σ' H' => ∃ F' δ', Same F F' ∧ Ok c F' H' σ' δ' ∧ PostS c W F' (whileL t body n δ') E, fun σ' H' h => ⟨n, Nat.lt_succ_self n, h⟩, hb c F3 H3 σ2 δ3 _ ok3 ?_⟩
      have gg : Same F F3 := g2.trans g3
      cases q : body δ3 with
      | nx δ5 => simp only [q, if_true] at post; exact fun F5 H5 σ5 g5 ok5 => ⟨F5, δ5, gg.trans g5, ok5, PostS.shift post g5⟩
      | ct δ5 => simp only [q, if_true] at post; exact fun F5 H5 σ5 g5 ok5 => ⟨F5, δ5, gg.trans g5, ok5, PostS.shift post g5⟩
      | bk δ5 => simp only [q, if_true] at post; exact post
      | rt r δ5 => simp only [q, if_true] at post; exact post
      | exc x δ5 => simp only [q, if_true] at post; exact post
      | bad => simp only [q, if_true] at post; exact post
end
end
end TS

namespace TS
open PySem L2
noncomputable section
abbrev W0 : WX := fun _ _ _ _ => False
def canD (M : Gm) (W : WX) (f : FD) : TE := fun σ H Q => ∃ (c : Cn M) (F : Hp) (δ : Sl), Ok c F H σ δ ∧ Post c W F σ (ρD c) (f δ) Q
def canT (M : Gm) (W : WX) (f : FT) : TT := fun σ H Q => ∃ (c : Cn M) (F : Hp) (δ : Sl), Ok c F H σ δ ∧ Post c W F σ ρT (f δ) Q
section
variable {M : Gm} {c : Cn M} {W : WX} {X : Cx} {tg e : Expr} {F F1 H H1 : Hp} {σ : St} {δ : Sl}
theorem DI.can {f : FD} (h : DI M W X e f) : PE X e (canD M W f) := by
  obtain ⟨t, p, h⟩ := h
  exact ⟨fun pins s σ H Q I ⟨c, F, δ, ok, post⟩ => p.run pins s σ H Q I (h c F H σ δ Q ok post)⟩
theorem DT.can {f : FT} (h : DT M W X e f) : PT X e (canT M W f) := by
  obtain ⟨t, p, h⟩ := h
  exact ⟨fun pins s σ H Q I ⟨c, F, δ, ok, post⟩ => p.run pins s σ H Q I (h c F H σ δ Q ok post)⟩
def wipeD (δ : Sl) : List Nat → Sl
  | [] => δ
  | v :: vs => (wipeD δ vs).set v none
theorem Ok.clr (ok : Ok c F H σ δ) (i : Nat) : Ok c F H (σ.set i none) (δ.set i none) where
  same := ok.same
  grow := ok.grow
  nofz := ok.nofz
  kept := ok.kept
  ioh := ok.ioh
  tb := ok.tb
  len := by simp [ok.len]
  slot := fun j r e => by
    rcases getElem?_set_some e with ⟨_, z, _⟩ | ⟨hn, e⟩
    · cases z
    · rw [List.getElem?_set_ne hn]; exact ok.slot j r e
  dist := fun j k r1 r2 w hjk e1 e2 m1 m2 s1 s2 => by
    rcases getElem?_set_some e1 with ⟨_, z, _⟩ | ⟨hn, e1⟩
    · cases z
    · rcases getElem?_set_some e2 with ⟨_, z, _⟩ | ⟨hn2, e2⟩
      · cases z
      · rw [List.getElem?_set_ne hn] at s1
        rw [List.getElem?_set_ne hn2] at s2
        exact ok.dist j k r1 r2 w hjk e1 e2 m1 m2 s1 s2
theorem Ok.wipe (ok : Ok c F H σ δ) : ∀ vs : List Nat, Ok c F H (L2.wipe σ vs) (wipeD δ vs)
  | [] => ok
  | v :: vs => (Ok.wipe ok vs).clr v
theorem Ok.unwipe {vs : List Nat} (ok : Ok c F H (L2.wipe σ vs) δ) : Ok c F H σ δ where
  same := ok.same
  grow := ok.grow
  nofz := ok.nofz
  kept := ok.kept
  ioh := ok.ioh
  tb := ok.tb
  len := by rw [← ok.len, wipe_length]
  slot := fun j r e => by
    obtain ⟨v, e1, e2⟩ := ok.slot j r e
    exact ⟨v, (wipe_some e1).1, e2⟩
  dist := fun j k r1 r2 w hjk e1 e2 m1 m2 s1 s2 => by
    obtain ⟨v, k1, _⟩ := ok.slot j r1 e1
    obtain ⟨v', k2, _⟩ := ok.slot k r2 e2
    have z1 := (wipe_some k1).1
    have z2 := (wipe_some k2).1
    rw [s1] at z1; cases z1
    rw [s2] at z2; cases z2
    exact ok.dist j k r1 r2 w hjk e1 e2 m1 m2 k1 k2
theorem Ok.poke (ok : Ok c F H σ δ) {p : Addr} {o : HO} (hp : ∀ u, H p = some u → NT u) (hF : F p = none) (h0 : c.H0 p = none) (hns : ∀ (i : Nat) (r : R), δ[i]? = some (some r) → r.mu = true → σ[i]? ≠ some (some (V.ref p))) : Ok c F (upd H p o) σ δ where
  same := fun b u e => by
    have : b ≠ p := fun z => by rw [z, hF] at e; cases e
    rw [upd_ne this]; exact ok.same b u e
  grow := ok.grow
  nofz := ok.nofz
  kept := fun b u e hi => by
    have : b ≠ p := fun z => by rw [z, h0] at e; cases e
    rw [upd_ne this]; exact ok.kept b u e hi
  ioh := fun a e => by
    have q : a ≠ p := fun z => c.iob a e (z ▸ h0)
    rw [upd_ne q]; exact ok.ioh a e
  tb := ok.tb.keep (fun b u e z => by rw [upd_ne (fun (y : b = p) => z (hp u (by rw [← y]; exact e)))]; exact e) (fun _ _ _ _ q => q) ok.tb.nt
  len := ok.len
  slot := fun i r e => by
    obtain ⟨v, e1, e2⟩ := ok.slot i r e
    refine ⟨v, e1, ?_⟩
    cases r with
    | imm d => exact e2
    | own ob =>
      obtain ⟨a, rfl, h1, h2, h3⟩ := e2
      have : a ≠ p := fun z => hns i _ e rfl (by rw [e1, z])
      exact ⟨a, rfl, h1, h2, obAt_mono (Same.refl _) (upd_ne this) h3⟩
    | brw ob =>
      obtain ⟨a, rfl, h1, h2, h3⟩ := e2
      have : a ≠ p := fun z => hns i _ e rfl (by rw [e1, z])
      exact ⟨a, rfl, h1, h2, obAt_mono (Same.refl _) (upd_ne this) h3⟩
    | nst tp ps => exact e2
  dist := ok.dist
theorem f0_none (ok : Ok c F H σ δ) {a : Addr} (h : F a = none) : c.F0 a = none := by
  cases z : c.F0 a with
  | none => rfl
  | some q => rw [ok.grow a q z] at h; cases h
def noX {α : Type} (r : Res α) : Res α := match r with
  | .exc _ _ => .bad
  | r => r
def lcL (setT : D → Sl → Option Sl) (vs : List Nat) (ft : FT) (fe : FD) : List D → List D → Sl → Res (List D)
  | [], acc, δ => .ok acc δ
  | d :: ds, acc, δ => match setT d δ with
    | none => .bad
    | some δ0 => (noX (ft δ0)).bind fun b δ1 => if b then (noX (fe δ1)).bind fun y δ2 => if acc.length < 16777216 then lcL setT vs ft fe ds (acc ++ [y]) (wipeD δ2 vs) else .bad else lcL setT vs ft fe ds acc (wipeD δ1 vs)
def freeS (δ : Sl) (i : Nat) : Bool := match δ[i]? with
  | some none => true
  | some (some (.imm _)) => true
  | _ => false
def restD (δ1 : Sl) : List Nat → Sl → Sl
  | [], δ => δ
  | v :: vs, δ => restD δ1 vs (δ.set v ((δ1[v]?).join))
def fLc (setT : D → Sl → Option Sl) (vs : List Nat) (fi : FA) (ft : FT) (fe : FD) : FE := fun δ => (fi δ).bind fun ds δ1 => if vs.all (freeS δ1) then
    (lcL setT vs ft fe ds [] (wipeD δ1 vs)).bind fun acc δ2 => .ok (.own (.l acc)) (restD δ1 vs δ2) else .bad
def SetT (M : Gm) (vs : List Nat) (g : TG) (setT : D → Sl → Option Sl) : Prop := ∀ (c : Cn M) (F H : Hp) (σ : St) (δ δ' : Sl) (x : V) (d : D) (k : St → Hp → Prop), Ok c F H σ δ → rep M F d x → setT d δ = some δ' → L2.wipe σ vs = σ →
  (∀ σ2, Ok c F H σ2 δ' → L2.wipe σ2 vs = σ → k σ2 H) → g x σ H k
theorem restD_ok {δ1 : Sl} (ok1 : Ok c F1 H1 σ δ1) (g : Same F1 F) : ∀ (vs : List Nat) {δ : Sl}, vs.all (freeS δ1) = true → Ok c F H σ δ → Ok c F H σ (restD δ1 vs δ) ∧ (∀ (i : Nat) (r : R), (restD δ1 vs δ)[i]? = some (some r) → r.mu = true → ∃ r0, δ[i]? = some (some r0) ∧ r0.mu = true)
  | [], δ, _, ok => ⟨ok, fun i r e m => ⟨r, e, m⟩⟩
  | v :: vs, δ, hf, ok => by
    rw [List.all_cons, Bool.and_eq_true] at hf
    have key : Ok c F H σ (δ.set v ((δ1[v]?).join)) ∧ (∀ (i : Nat) (r : R), (δ.set v ((δ1[v]?).join))[i]? = some (some r) → r.mu = true → ∃ r0, δ[i]? = some (some r0) ∧ r0.mu = true) := by
      have h := hf.1
      unfold freeS at h
      split at h
      · rename_i q
        rw [q]
        refine ⟨ok.drop v, fun i r e m => ?_⟩
        rcases getElem?_set_some e with ⟨_, z, _⟩ | ⟨_, e⟩
        · cases z
        · exact ⟨r, e, m⟩
      · rename_i d q
        rw [q]
        obtain ⟨w, e1, e2⟩ := ok1.slot v _ q
        refine ⟨ok.setSame e1 (rep_mono g _ _ e2), fun i r e m => ?_⟩
        rcases getElem?_set_some e with ⟨_, z, _⟩ | ⟨_, e⟩
        · have z' : (R.imm d) = r := by simpa using z
          subst z'; cases m
        · exact ⟨r, e, m⟩
      · cases h
    obtain ⟨k1, k2⟩ := restD_ok ok1 g vs hf.2 key.1
    refine ⟨k1, fun i r e m => ?_⟩
    obtain ⟨r0, e0, m0⟩ := k2 i r e m
    exact key.2 i r0 e0 m0
theorem wipe_idem (σ : St) : ∀ vs : List Nat, L2.wipe (L2.wipe σ vs) vs = L2.wipe σ vs := fun vs => by
  apply List.ext_getElem?
  intro j
  by_cases hj : j ∈ vs
  · have key : ∀ (τ : St) (us : List Nat), j ∈ us → (L2.wipe τ us)[j]? = if j < τ.length then some none else none := by
      intro τ us
      induction us with
      | nil => intro h; cases h
      | cons u us ih =>
        intro h
        unfold L2.wipe
        by_cases e : u = j
        · subst e
          by_cases hl : u < τ.length
          · rw [List.getElem?_set_self (by rw [wipe_length]; exact hl), if_pos hl]
          · rw [if_neg hl, List.getElem?_eq_none (by rw [List.length_set, wipe_length]; omega)]
        · rw [List.getElem?_set_ne e]
          rcases List.mem_cons.mp h with z | z
          · exact absurd z.symm e
          · exact ih z
    rw [key _ _ hj, key _ _ hj, wipe_length]
  · rw [wipe_out hj]
theorem lc_read {wi : TI} {g : TG} {fi : FA} {ft : FT} {fe : FD} {setT : D → Sl → Option Sl} {vs : List Nat} (hi : ∀ (c : Cn M) F H σ δ (Q : It → Hp → Prop), Ok c F H σ δ → Post c W F σ (ρI M) (fi δ) Q → wi σ H Q) (hg : SetT M vs g setT) :
    RE M W (tLc wi g (canT M W0 ft) (canD M W0 fe) vs) (fLc setT vs fi ft fe) := fun c F H σ δ Q ok post => by
  refine hi c F H σ δ _ ok (Post.bind post fun ds δ1 J F1 H1 _ s1 ok1 wk post => fun D hD => ?_)
  split at post
  · rename_i hfree
    have okA : Ok c F1 (upd H1 D (.lst [])) σ δ1 := ok1.alloc hD
    have okW : Ok c F1 (upd H1 D (.lst [])) (L2.wipe σ vs) (wipeD δ1 vs) := okA.wipe vs
    have h0 : c.H0 D = none := ok1.h0 hD
    refine ⟨fun k m H => k ≤ ds.length ∧ m = ds.length - k ∧ ∃ F' δ' acc as, Same F1 F' ∧ Ok c F' H (L2.wipe σ vs) δ' ∧ F' D = none ∧ H D = some (.lst as) ∧ reps M F' acc as ∧
        (∀ (i : Nat) (r : R), δ'[i]? = some (some r) → r.mu = true → (L2.wipe σ vs)[i]? ≠ some (some (V.ref D))) ∧
        Post c W F' σ (ρR c σ) ((lcL setT vs ft fe (ds.drop k) acc δ').bind fun acc δ2 => .ok (.own (.l acc)) (restD δ1 vs δ2)) Q,
      ⟨ds.length, Nat.zero_le _, rfl, F1, wipeD δ1 vs, [], [], Same.refl _, okW, ok1.f hD, upd_same, reps_nil, ?_, post⟩, ?_⟩
    · intro i r e m z
      obtain ⟨v, k1, k2⟩ := okW.slot i r e
      rw [k1] at z; cases z
      have k3 := (wipe_some k1).1
      -- the slot's object stood before D
      cases r with
      | imm d => cases m
      | own o =>
        obtain ⟨a, ea, q1, q2, q3⟩ := k2
        cases ea
        have ok1w := (ok1.wipe vs).slot i _ e
        obtain ⟨v', z1, a', ea', w1, w2, w3⟩ := ok1w
        rw [k1] at z1; cases z1; cases ea'
        obtain ⟨u, hu⟩ := obAt_some w3
        rw [hD] at hu; cases hu
      | brw o =>
        obtain ⟨a, ea, q1, q2, q3⟩ := k2
        cases ea
        have ok1w := (ok1.wipe vs).slot i _ e
        obtain ⟨v', z1, a', ea', w1, w2, w3⟩ := ok1w
        rw [k1] at z1; cases z1; cases ea'
        obtain ⟨u, hu⟩ := obAt_some w3
        rw [hD] at hu; cases hu
      | nst tp ps => cases m
    rintro k m H2 ⟨hk, rfl, F2, δ2, acc, as, g2, ok2, f2, d2, r2, n2, post⟩
    by_cases hl : k < ds.length
    · right
      have hd : ds[k]? = some ds[k] := List.getElem?_eq_getElem hl
      -- the list is held aside while the item comes and while the block runs
      have okg := ok2.guard f2 h0 d2 rfl n2
      obtain ⟨k1, k2⟩ := Walks.turn wk g2 okg hd
      rw [List.drop_eq_getElem_cons hl] at post
      unfold lcL at post
      refine ⟨k1, fun H' => ∃ F' δ' acc as, Same F1 F' ∧ Ok c F' H' (L2.wipe σ vs) δ' ∧ F' D = none ∧ H' D = some (.lst as) ∧ reps M F' acc as ∧
        (∀ (i : Nat) (r : R), δ'[i]? = some (some r) → r.mu = true → (L2.wipe σ vs)[i]? ≠ some (some (V.ref D))) ∧
        Post c W F' σ (ρR c σ) ((lcL setT vs ft fe (ds.drop (k + 1)) acc δ').bind fun acc δ2 => .ok (.own (.l acc)) (restD δ1 vs δ2)) Q, fun H' h => ⟨ds.length - (k + 1), by omega, by omega, rfl, h⟩, fun x H' y => ?_⟩
      obtain ⟨F3, g3, ok3, r3⟩ := k2 x H' y
      split at post
      · exact post.elim
      · rename_i δ0 e0
        refine hg (c.guard D (.lst as) rfl) F3 H' (L2.wipe σ vs) δ2 δ0 x ds[k] _ ok3 r3 e0 (wipe_idem σ vs) fun σ2 okS hw => ⟨hw, ?_⟩
        refine ⟨c.guard D (.lst as) rfl, F3, δ0, okS, ?_⟩
        cases q : ft δ0 with
        | bad => rw [q] at post; exact post.elim
        | exc x δ => rw [q] at post; exact post.elim
        | ok b δ4 =>
          rw [q] at post
          intro b' F4 H4 g4 ok4 eb
          cases (show b = b' from eb)
          have post : Post c W F2 σ (ρR c σ) ((if b then (noX (fe δ4)).bind fun y δ2 => if acc.length < 16777216 then lcL setT vs ft fe (ds.drop (k + 1)) (acc ++ [y]) (wipeD δ2 vs) else .bad else lcL setT vs ft fe (ds.drop (k + 1)) acc (wipeD δ4 vs)).bind fun acc δ2 => .ok (.own (.l acc)) (restD δ1 vs δ2)) Q := post
          cases b with
          | false =>
            obtain ⟨q1, q2, q3, q4⟩ := ok4.unguard h0
            have qw := q1.wipe vs
            rw [hw] at qw
            refine ⟨F4, wipeD δ4 vs, acc, as, (g2.trans g3).trans g4, qw, q2 (f0_none ok2 f2), q3, reps_mono (g3.trans g4) _ _ r2, fun i r e m z => ?_, Post.shift post (g3.trans g4)⟩
            obtain ⟨v, z1, z2⟩ := qw.slot i r e
            rw [z1] at z; cases z
            rw [← hw] at z1
            have z3 := (wipe_some z1)
            have e' : δ4[i]? = some (some r) := by
              have key : ∀ (us : List Nat), i ∉ us → (wipeD δ4 us)[i]? = δ4[i]? := by
                intro us
                induction us with
                | nil => intro _; rfl
                | cons u us ih =>
                  intro h
                  simp only [List.mem_cons, not_or] at h
                  unfold wipeD
                  rw [List.getElem?_set_ne (Ne.symm h.1)]
                  exact ih h.2
              rw [key vs z3.2] at e
              exact e
            exact q4 i r e' m z3.1
          | true =>
            refine ⟨c.guard D (.lst as) rfl, F4, δ4, ok4, ?_⟩
            cases q5 : fe δ4 with
            | bad => rw [q5] at post; exact post.elim
            | exc x δ => rw [q5] at post; exact post.elim
            | ok yd δ5 =>
              rw [q5] at post
              intro y F5 H5 g5 ok5 ry
              have post : Post c W F2 σ (ρR c σ) ((if acc.length < 16777216 then lcL setT vs ft fe (ds.drop (k + 1)) (acc ++ [yd]) (wipeD δ5 vs) else .bad).bind fun acc δ2 => .ok (.own (.l acc)) (restD δ1 vs δ2)) Q := post
              obtain ⟨q1, q2, q3, q4⟩ := ok5.unguard h0
              split at post
              · rename_i hlen
                have r5 : reps M F5 acc as := reps_mono ((g3.trans g4).trans g5) _ _ r2
                have f5 := q2 (f0_none ok2 f2)
                refine ⟨as, q3, by rw [reps_length r5, sizeLine_eq]; exact hlen, ?_⟩
                have qp : Ok c F5 (upd H5 D (.lst (as ++ [y]))) σ2 δ5 := q1.poke (fun u e => by rw [q3] at e; cases e; rfl) f5 h0 q4
                have qw := qp.wipe vs
                rw [hw] at qw
                refine ⟨F5, wipeD δ5 vs, acc ++ [yd], as ++ [y], ((g2.trans g3).trans g4).trans g5, qw, f5, upd_same, reps_append r5 (reps_cons ry reps_nil), fun i r e m z => ?_, Post.shift post ((g3.trans g4).trans g5)⟩
                obtain ⟨v, z1, z2⟩ := qw.slot i r e
                rw [z1] at z; cases z
                rw [← hw] at z1
                have z3 := (wipe_some z1)
                have e' : δ5[i]? = some (some r) := by
                  have key : ∀ (us : List Nat), i ∉ us → (wipeD δ5 us)[i]? = δ5[i]? := by
                    intro us
                    induction us with
                    | nil => intro _; rfl
                    | cons u us ih =>
                      intro h
                      simp only [List.mem_cons, not_or] at h
                      unfold wipeD
                      rw [List.getElem?_set_ne (Ne.symm h.1)]
                      exact ih h.2
                  rw [key vs z3.2] at e
                  exact e
                exact q4 i r e' m z3.1
              · exact post.elim
    · left
      have hk' : k = ds.length := by omega
      subst hk'
      refine ⟨(wk _ H2 (g2.trans ok2.same)).2 (List.getElem?_eq_none (Nat.le_refl _)), ?_⟩
      rw [List.drop_length] at post
      unfold lcL at post
      simp only [Res.bind_ok] at post
      have ok3 : Ok c F2 H2 σ δ2 := ok2.unwipe
      obtain ⟨ok4, m4⟩ := restD_ok ok1 g2 vs hfree ok3
      refine post.ok ok4 ⟨D, rfl, f2, h0, ⟨as, d2, r2⟩, fun i r e m z => ?_⟩
      obtain ⟨r0, e0, m0⟩ := m4 i r e m
      obtain ⟨v, z1, z2⟩ := ok2.slot i r0 e0
      have z3 := (wipe_some z1).1
      rw [z] at z3; cases z3
      exact n2 i r0 e0 m0 z1
  · exact post.elim
def stName (i : Nat) : D → Sl → Option Sl := fun d δ => some (δ.set i (some (.imm d)))
theorem st_name (i : Nat) : SetT M [i] (gName i) (stName i) := fun c F H σ δ δ' x d k ok r e hw q => by
  cases e
  refine q _ (ok.setI i r) ?_
  show (σ.set i (some x)).set i none = σ
  rw [List.set_set]
  exact hw
def stPair (i j : Nat) : D → Sl → Option Sl := fun d δ => match d with
  | .tup [a, b] => some ((δ.set i (some (.imm a))).set j (some (.imm b)))
  | .ktp [a, b] => some ((δ.set i (some (.imm (.int a)))).set j (some (.imm (.int b))))
  | _ => none
theorem st_pair {i j : Nat} (hij : i ≠ j) : SetT M [i, j] (gTup M.K 2 (gCons (gName i) (gCons (gName j) gNil))) (stPair i j) := fun c F H σ δ δ' x d k ok r e hw q => by
  unfold stPair at e
  split at e
  · rename_i a b
    cases e
    unfold rep at r
    obtain ⟨p, vs, rfl, h2, h3⟩ := r
    unfold reps at h3
    obtain ⟨v, r1, rfl, k1, h3⟩ := h3
    unfold reps at h3
    obtain ⟨w, r2, rfl, k2, h3⟩ := h3
    unfold reps at h3
    subst h3
    refine ⟨p, _, rfl, SqT.of (ok.same _ _ h2), rfl, v, _, rfl, w, _, rfl, rfl, q _ ((ok.setI i k1).setI j k2) ?_⟩
    show (((σ.set i (some v)).set j (some w)).set j none).set i none = σ
    rw [List.set_set, List.set_comm _ _ hij, List.set_set, List.set_comm _ _ (Ne.symm hij)]
    have : (σ.set j none).set i none = σ := hw
    rw [List.set_comm _ _ hij]
    exact this
  · rename_i a b
    cases e
    unfold rep at r
    obtain ⟨p, rfl, h2⟩ := r
    refine ⟨p, _, rfl, itup_sq ok.same h2, rfl, .int a, _, rfl, .int b, _, rfl, rfl, q _ ((ok.setI i (rep_int' a)).setI j (rep_int' b)) ?_⟩
    show (((σ.set i (some (V.int a))).set j (some (V.int b))).set j none).set i none = σ
    rw [List.set_set, List.set_comm _ _ hij, List.set_set, List.set_comm _ _ (Ne.symm hij)]
    have : (σ.set j none).set i none = σ := hw
    rw [List.set_comm _ _ hij]
    exact this
  · cases e
abbrev blkX (X : Cx) (scope : Scope) : Shared → Hp → Addr → List (Str × Addr) → List Addr → Cx := fun s H C cl fp => X.blk s H scope (compEnvC scope cl C X.env) fp
theorem de_lc {elt iter : Expr} {ifs : List Expr} {scope : Scope} {own : List (Str × Nat)} {pos : Pos} {g : TG} {fi : FA} {ft : FT} {fe : FD} {setT : D → Sl → Option Sl} {vs : List Nat} (hvs : own.map (·.2) = vs) (hc : X.calm = true) (hN : X.N.Nodup) (hi : DIt M W X tg iter fi) (ok : BlkOk X.N X.env.scope scope own)
    (hS : SetT M vs g setT) (hg : ∀ s H C cl fp, PG (blkX X scope s H C cl fp) tg g) (ht : ∀ s H C cl fp, PTs (blkX X scope s H C cl fp) ifs (canT M W0 ft)) (he : ∀ s H C cl fp, DI M W0 (blkX X scope s H C cl fp) elt fe) (hs : ∀ x, foldedSetIterable iter X.env x = pure x := by intro _; rfl) :
    DE M W X (.ListComp elt [⟨tg, iter, ifs, 0⟩] scope pos) (fLc setT vs fi ft fe) := by
  obtain ⟨wi, pi, hi⟩ := hi
  subst hvs
  exact ⟨_, pe_lc hc hN pi ok hg ht (fun s H C cl fp => (he s H C cl fp).can) hs, lc_read hi hS⟩
def tTrue : FT := fun δ => .ok true δ
theorem pts_no {X : Cx} : PTs X [] (canT M W0 tTrue) := ⟨fun pins s σ H Q I ⟨c, F, δ, ok, post⟩ => pts_nil.run pins s σ H Q I (post.ok ok rfl)⟩
theorem ds_setLc {i : Nat} {y : Str} {py : Pos} {elt iter : Expr} {ifs : List Expr} {scope : Scope} {own : List (Str × Nat)} {pos spos : Pos} {g : TG} {fi : FA} {ft : FT} {fe : FD} {setT : D → Sl → Option Sl} {vs : List Nat} (hvs : own.map (·.2) = vs) (hc : X.calm = true) (hN : X.N.Nodup) (hy : X.N[i]? = some y) (hyl : X.env.scope.names.lookup y = some .local)
    (hsw : swapsWith (.ListComp elt [⟨tg, iter, ifs, 0⟩] scope pos) (some (.Name y py)) spos.line X.env = pure true) (hi : DIt M W X tg iter fi) (ok : BlkOk X.N X.env.scope scope own)
    (hS : SetT M vs g setT) (hg : ∀ s H C cl fp, PG (blkX X scope s H C cl fp) tg g) (ht : ∀ s H C cl fp, PTs (blkX X scope s H C cl fp) ifs (canT M W0 ft)) (he : ∀ s H C cl fp, DI M W0 (blkX X scope s H C cl fp) elt fe) (hs : ∀ x, foldedSetIterable iter X.env x = pure x := by intro _; rfl) :
    DS M W X (.Assign [.Name y py] (.ListComp elt [⟨tg, iter, ifs, 0⟩] scope pos) spos) (sAsg (fLc setT vs fi ft fe) (tName i)) := by
  obtain ⟨wi, pi, hi⟩ := hi
  subst hvs
  refine ⟨_, ps_setLc hc hN hy hyl hsw pi ok hg ht (fun s H C cl fp => (he s H C cl fp).can) hs, asg_of (lc_read hi hS) (fun c F H σ δ v r Q ok rr post => ?_) (tgt_name i)⟩
  unfold tName at post
  cases r with
  | imm d => exact post F H _ (Same.refl _) (ok.setI i rr)
  | own o => exact post F H _ (Same.refl _) (ok.setO i rr)
  | brw o => exact post.elim
  | nst _ _ => exact post.elim
def ioN : Option OB → Nat
  | none => 0
  | some _ => 1
def ioS : Option OB → Sl
  | none => []
  | some o => [some (R.brw o)]
def ini (n : Nat) (io : Option OB) (ds : List D) : Sl := ioS io ++ ds.map (fun d => some (R.imm d)) ++ List.replicate (n - (ioN io + ds.length)) none
def ioOut (io : Option OB) (δ : Sl) : Option (Option OB) := match io with
  | none => some none
  | some _ => match δ[0]? with
    | some (some (R.brw o)) => some (some o)
    | _ => none
def outR (io : Option OB) : SR → FR
  | .rt r δ => (match ioOut io δ with
    | some io' => .ok r io'
    | none => .bad)
  | .nx δ => (match ioOut io δ with
    | some io' => .ok (.imm .non) io'
    | none => .bad)
  | .exc x δ => (match ioOut io δ with
    | some io' => .exc x io'
    | none => .bad)
  | _ => .bad
def mir (n np : Nat) (g : FS) : Fm := fun io ds => if ioN io + ds.length = np ∧ np ≤ n then outR io (g (ini n io ds)) else .bad
end
end
end TS

namespace TS
open PySem L2
noncomputable section
section
variable {M : Gm} {P : Program} {w : World} {mg : Str → Option Value} {base : Heap}
theorem ini_get_none {n : Nat} {ds : List D} {i : Nat} {r : R} (h : (ini n none ds)[i]? = some (some r)) : ∃ d, ds[i]? = some d ∧ r = .imm d := by
  unfold ini ioS at h
  simp only [List.nil_append] at h
  by_cases hl : i < ds.length
  · rw [List.getElem?_append_left (by simpa using hl), List.getElem?_map, List.getElem?_eq_getElem hl] at h
    simp only [Option.map_some, Option.some.injEq] at h
    exact ⟨ds[i], List.getElem?_eq_getElem hl, h.symm⟩
  · rw [List.getElem?_append_right (by simpa using hl)] at h
    rw [List.getElem?_replicate] at h
    split at h
    · cases h
    · cases h
theorem ini_get_some {n : Nat} {o : OB} {ds : List D} {i : Nat} {r : R} (h : (ini n (some o) ds)[i]? = some (some r)) : (i = 0 ∧ r = .brw o) ∨ ∃ j d, i = j + 1 ∧ ds[j]? = some d ∧ r = .imm d := by
  unfold ini ioS at h
  cases i with
  | zero =>
    simp only [List.cons_append, List.getElem?_cons_zero, Option.some.injEq] at h
    exact .inl ⟨rfl, h.symm⟩
  | succ j =>
    simp only [List.cons_append, List.nil_append, List.getElem?_cons_succ] at h
    right
    by_cases hl : j < ds.length
    · rw [List.getElem?_append_left (by simpa using hl), List.getElem?_map, List.getElem?_eq_getElem hl] at h
      simp only [Option.map_some, Option.some.injEq] at h
      exact ⟨j, ds[j], rfl, List.getElem?_eq_getElem hl, h.symm⟩
    · rw [List.getElem?_append_right (by simpa using hl), List.getElem?_replicate] at h
      split at h
      · cases h
      · cases h
theorem ini_len {n : Nat} {io : Option OB} {ds : List D} (h : ioN io + ds.length ≤ n) : (ini n io ds).length = n := by
  unfold ini
  cases io with
  | none => simp [ioS, ioN] at h ⊢; omega
  | some o => simp [ioS, ioN] at h ⊢; omega
theorem mir_ok {n np : Nat} {g : FS} {vs : List V} {H : Hp} {Q : VK} {E : XK} (h : spD M (mir n np g) vs H Q E) : vs.length = np := by
  obtain ⟨F, io, a, ws, ds, rfl, s, tb, rs, ia, h⟩ := h
  unfold mir at h
  by_cases hn : ioN io + ds.length = np ∧ np ≤ n
  · rw [List.length_append, reps_length rs]
    cases io <;> simp [ioV, ioN] at hn ⊢ <;> omega
  · rw [if_neg hn] at h
    exact h.elim
def cnOf (F H : Hp) (io : Option OB) (a : Addr) (ha : ∀ b, (io.map fun _ => a) = some b → ∃ u, H b = some u ∧ NT u) : Cn M := ⟨F, str0 H, io.map fun _ => a, fun b e z => by
  obtain ⟨u, h1, h2⟩ := ha b e
  exact str0_none z u h1 h2, fun _ _ h => (str0_nt h).2, none, fun _ z => nomatch z⟩
theorem body_ok {N : List Str} {np : Nat} {g : FS} {t : TS} {vs : List V} {H : Hp} {Q : VK} {E : XK} (hN : np ≤ N.length) (h : spD M (mir N.length np g) vs H Q E)
    (ht : ∀ (c : Cn M) F H σ δ D, Ok c F H σ δ → PostS c (fun cls d _ H => E cls d H) F (g δ) D → t D σ H) : t { nx := fun _ H' => Q .non H', rt := Q } (start N vs) H := by
  have hv := mir_ok h
  obtain ⟨F, io, a, ws, ds, rfl, s, tb, rs, ia, h⟩ := h
  have hio : ∀ b, (io.map fun _ => a) = some b → ∃ u, H b = some u ∧ NT u := fun b e => by
    cases io with
    | none => cases e
    | some o =>
      cases e
      exact obAt_nt ia.2
  unfold mir at h
  have hcond : ioN io + ds.length = np ∧ np ≤ N.length := by
    refine ⟨?_, hN⟩
    rw [List.length_append, reps_length rs] at hv
    cases io <;> simp [ioV, ioN] at hv ⊢ <;> omega
  rw [if_pos hcond] at h
  have hle : ioN io + ds.length ≤ N.length := by rw [hcond.1]; exact hcond.2
  have ok : Ok (cnOf (M := M) F H io a hio) F H (start N (ioV io a ++ ws)) (ini N.length io ds) := by
    refine ⟨s, Same.refl _, fun _ _ z => z, fun _ _ z _ => (str0_nt z).1, hio, tb, ?_, fun i r e => ?_, fun i j r r' v hij e1 e2 m1 m2 _ _ => ?_⟩
    · rw [ini_len hle]
      unfold L2.start
      rw [List.length_append, List.length_map, List.length_replicate]
      rw [hv]; omega
    · cases io with
      | none =>
        obtain ⟨d, hd, rfl⟩ := ini_get_none e
        obtain ⟨v, e1, e2⟩ := reps_get rs hd
        refine ⟨v, ?_, e2⟩
        unfold L2.start
        have hl : i < ws.length := (List.getElem?_eq_some_iff.mp e1).1
        simp only [ioV, List.nil_append]
        rw [List.getElem?_append_left (by simpa using hl), List.getElem?_map, e1]; rfl
      | some o =>
        rcases ini_get_some e with ⟨rfl, rfl⟩ | ⟨j, d, rfl, hd, rfl⟩
        · exact ⟨.ref a, rfl, a, rfl, ia.1, rfl, ia.2⟩
        · obtain ⟨v, e1, e2⟩ := reps_get rs hd
          refine ⟨v, ?_, e2⟩
          unfold L2.start
          have hl : j < ws.length := (List.getElem?_eq_some_iff.mp e1).1
          simp only [ioV, List.cons_append, List.nil_append, List.map_cons, List.getElem?_cons_succ]
          rw [List.getElem?_append_left (by simpa using hl), List.getElem?_map, e1]; rfl
    · cases io with
      | none => obtain ⟨d, _, rfl⟩ := ini_get_none e1; cases m1
      | some o =>
        rcases ini_get_some e1 with ⟨rfl, rfl⟩ | ⟨j1, d, rfl, hd, rfl⟩
        · rcases ini_get_some e2 with ⟨rfl, rfl⟩ | ⟨j1, d, rfl, hd, rfl⟩
          · exact hij rfl
          · cases m2
        · cases m1
  have stp : ∀ {F' H' : Hp} {σ' : St} {δ' : Sl}, Ok (cnOf (M := M) F H io a hio) F' H' σ' δ' → Stp M F H F' H' (io.map fun _ => a) := fun o => ⟨o.grow, fun b u e n z => o.nofz b (by show str0 H b ≠ none; rw [str0_of e n]; exact fun z => by cases z) z, fun b u e n i => o.kept b u (str0_of e n) i, o.same, o.tb⟩
  have iout : ∀ {F' H' : Hp} {σ' : St} {δ' : Sl} {io' : Option OB}, Ok (cnOf (M := M) F H io a hio) F' H' σ' δ' → ioOut io δ' = some io' → ioAt M F' H' io' a := fun {F' H' σ' δ' io'} o e => by
    unfold ioOut at e
    cases io with
    | none => cases e; trivial
    | some ob =>
      simp only at e
      split at e
      · rename_i o' q
        cases e
        obtain ⟨v, k1, b, rfl, k2, k3, k4⟩ := o.slot 0 _ q
        have : a = b := Option.some.inj k3
        subst this
        exact ⟨k2, k4⟩
      · cases e
  refine ht _ F H _ _ _ ok ?_
  cases q : g (ini N.length io ds) with
  | bad => rw [q] at h; exact h.elim
  | bk δ => rw [q] at h; exact h.elim
  | ct δ => rw [q] at h; exact h.elim
  | nx δ =>
    rw [q] at h
    unfold outR at h
    intro F' H' σ' g' ok'
    cases e : ioOut io δ with
    | none => simp only [e] at h
    | some io' =>
      simp only [e] at h
      exact h .non F' H' (stp ok') (rep_non' (M := M) (F := F')) (iout ok' e)
  | rt r δ =>
    rw [q] at h
    unfold outR at h
    intro v F' H' σ' g' ok' rr
    cases e : ioOut io δ with
    | none => simp only [e] at h
    | some io' =>
      simp only [e] at h
      refine h v F' H' (stp ok') ?_ (iout ok' e)
      cases r with
      | imm d => exact rr
      | own o =>
        obtain ⟨b, rfl, k1, k2, k3, _⟩ := rr
        exact ⟨b, rfl, k1, str0_none k2, k3⟩
      | brw o => exact rr
      | nst tp ps =>
        obtain ⟨b, vs', h1, h2, h3⟩ := rr
        exact ⟨b, vs', h1, h2, fun b hb => ⟨(h3 b hb).1, str0_none (h3 b hb).2.1⟩⟩
  | exc x δ =>
    rw [q] at h
    unfold outR at h
    intro cls d F' H' σ' g' ok' xa
    cases e : ioOut io δ with
    | none => simp only [e] at h
    | some io' =>
      simp only [e] at h
      exact h cls d F' H' (stp ok') xa (iout ok' e)
theorem funD_mir {x qual : Str} {params : Arguments} {body : List Stmt} {scope : Scope} {dvs : List V} {kws : List (Str × V)} {f : Addr} {fd : FuncData} {N ps : List Str} {k : Nat} {g : FS} (F : FunD M.K x qual params body scope dvs kws f fd) (S : FnScope N ps scope) (hN : ps.length ≤ N.length)
    (hb : ∀ (cdv : Value) (A : Around) (outer : List Env) (s : Shared) (H : Hp) (E : XK), Room k (A.deeper (PyProof.Rows.envOfC qual scope s.heap.objs.size f cdv)) →
      Takes (cxOf (L2.CX P w) P w M.K mg base N qual scope f cdv A outer s H E) (fun cls d _ H => E cls d H) →
      PassesOwn (model P w) (A.deeper (PyProof.Rows.envOfC qual scope s.heap.objs.size f cdv)) (PyProof.Rows.envOfC qual scope s.heap.objs.size f cdv) (cxOf (L2.CX P w) P w M.K mg base N qual scope f cdv A outer s H E).xe →
      DSs M (fun cls d _ H => E cls d H) (cxOf (L2.CX P w) P w M.K mg base N qual scope f cdv A outer s H E) body g) :
    FnOk P w M.K mg base (L2.CX P w) (k + 1) f fd ps (spD M (mir N.length ps.length g)) := by
  refine FnOk.of F S (fun vs H Q E h => mir_ok h) (fun cdv A outer s H vs Q E hr h => ?_)
  obtain ⟨t, p, ht⟩ := hb cdv A outer s H E hr (takes_of rfl rfl rfl rfl) (passes_of rfl)
  exact ⟨t, p, body_ok hN h ht⟩
end
end
end TS

namespace TS
open PySem L2
noncomputable section
structure DefE where
  at_ : PySem.W.Frag → Addr
  name : Str
  qual : Str
  params : Arguments
  body : List Stmt
  scope : Scope
  dfl : List He.Dv := []
  sup : Bool := false
def fnE (sup : Bool) (K : PySem.W.Frag) (a : Addr) : He.FnW := match K.lookup a with
  | some ⟨_, _, .func fd, _⟩ => some (fd.name, fd.qualname, fd.params, fd.body, fd.scope, fd.globals, if sup then [] else fd.closure, fd.builtins)
  | _ => none
def DefE.val (d : DefE) : He.FnW := some (d.name, d.qual, d.params, .stmts d.body, d.scope, mainGlobals, [], builtinsNs)
def DefE.dvs (K : PySem.W.Frag) (d : DefE) : List V := d.dfl.map (He.Dv.v K)
def DefE.ok (K : PySem.W.Frag) (d : DefE) : Bool := PySem.W.keepIn K (.ref (d.at_ K)) && (match K.lookup (d.at_ K) with
  | some ⟨_, _, .func fd, _⟩ => PySem.W.codeIn K fd.code d.qual && He.dflB K fd.defaults (d.dvs K)
  | _ => false)
theorem DefE.funD {K : PySem.W.Frag} {d : DefE} (e : fnE false K (d.at_ K) = d.val) (c : d.ok K = true) : ∃ fd, FunD K d.name d.qual d.params d.body d.scope (d.dvs K) [] (d.at_ K) fd := by
  obtain ⟨kp, c2⟩ := He.ba c
  unfold fnE at e
  cases q : K.lookup (d.at_ K) with
  | none =>
    rw [q] at c2
    cases c2
  | some o =>
    obtain ⟨oc, od, dt, osl⟩ := o
    rw [q] at c2 e
    cases dt with
    | func fd =>
      obtain ⟨n1, n2, n3, n4, n5, n6, n7, n8, n9, n10, n11, n12, n13, n14, n15⟩ := fd
      have e2 : (some (n1, n2, n3, n4, n5, n6, n7, n15) : He.FnW) = some (d.name, d.qual, d.params, .stmts d.body, d.scope, mainGlobals, [], builtinsNs) := e
      simp only [Option.some.injEq, Prod.mk.injEq] at e2
      obtain ⟨h1, h2, h3, h4, h5, h6, h7, h8⟩ := e2
      subst h1 h2 h3 h4 h5 h6 h7 h8
      have c3 : (PySem.W.codeIn K n13 d.qual && He.dflB K n8 (d.dvs K)) = true := c2
      obtain ⟨k1, k3⟩ := He.ba c3
      exact ⟨_, ⟨oc, od, n8, n9, n10, n11, n12, n13, n14, osl, rfl, q, k1, He.dflB_ok k3, .inl rfl⟩, kp⟩
    | _ => cases c2
abbrev gA (x : Str) : PySem.W.Frag → Addr := fun K => He.ga K x
abbrev mA (x m : Str) : PySem.W.Frag → Addr := fun K => He.ma K (He.ga K x) m
def dA (x m : Str) : PySem.W.Frag → Addr := fun K => He.ma K (He.ga K x) m
def uA (T : String) (x m : Str) : PySem.W.Frag → Addr := fun K => match PySem.W.recIn K (dA x m K) T with
  | some (.ref g :: _) => g
  | _ => 0
def refOf : Value → Addr
  | .ref c => c
  | _ => 0
def isRef : Value → Bool
  | .ref _ => true
  | _ => false
def cdA (f : PySem.W.Frag → Addr) (K : PySem.W.Frag) : Addr := match K.lookup (f K) with
  | some ⟨_, _, .func fd, _⟩ => refOf fd.code
  | _ => 0
def fnRef (f : PySem.W.Frag → Addr) (K : PySem.W.Frag) : Bool := match K.lookup (f K) with
  | some ⟨_, _, .func fd, _⟩ => isRef fd.code
  | _ => false
def clO (f : PySem.W.Frag → Addr) (K : PySem.W.Frag) : Option Addr := match K.lookup (f K) with
  | some ⟨_, _, .func fd, _⟩ => (match fd.closure with
    | [(x, cc)] => if x = ("__class__" : Str) then some cc else none
    | _ => none)
  | _ => none
def clA (f : PySem.W.Frag → Addr) (K : PySem.W.Frag) : Addr := (clO f K).getD 0
def cellOf (o : Option Obj) (d : Addr) : Bool := match o with
  | some ⟨_, _, .cell (some (.ref e)), _⟩ => decide (e = d)
  | _ => false
def fileOf (o : Option Obj) (z : Str) : Bool := match o with
  | some ⟨_, _, .fields vs, _⟩ => (match (vs[2]? : Option Value) with
    | some (Value.str y _) => decide (y = z)
    | _ => false)
  | _ => false
inductive Fx where
  | he (f : He.Fa)
  | prop (x f : Str)
  | cmet (x m : Str)
  | cread (x : Str)
  | cint (x f : Str) (i : Int)
  | kit (x y : Str) (b : Bool)
  | kitT (t : String) (y : Str) (b : Bool)
  | kitC (x : Str) (t : String) (b : Bool)
  | ity (x : Str)
  | neb (x : Str)
  | nfT (x : Str) (t : String)
  | nfC (x y : Str)
  | sfx (x : Str)
  | exc (x : Str) (B : String)
  | exm (x y : Str) (b : Bool)
  | smd
  | dgt
  | gtup (x : Str) (ns : List Int)
  | sup (x y : Str) (z : Str)
  | same (x y m : Str)
  | kwd (x : Str) (ks : List (Str × He.Dv))
def intOf : Value → Option Int
  | .int i _ => some i
  | _ => none
def bmOf : String → List Value := fun B => [.type B, .type "Exception", .type "BaseException", .type "object"]
def headRef : Option (List Value) → Addr → Bool
  | some (.ref g :: _), a => decide (g = a)
  | _, _ => false
def tyT : Value := .type "type"
def Fx.ok (K : PySem.W.Frag) : Fx → Bool
  | .he f => f.ok K
  | .prop x f => He.eqO (PySem.W.findIn K (.ref (He.ga K x)) f) (some (some (.ref (dA x f K)))) && (He.eqO (PySem.W.specialIn K (.ref (dA x f K)) "__get__") (some (some (.builtin "property.__get__"))) && (decide (PySem.W.takesIn K (.ref (dA x f K)) = some true) && headRef (PySem.W.recIn K (dA x f K) "property") (uA "property" x f K)))
  | .cmet x m => (match PySem.W.findCls K (.ref (He.ga K x)) tyT m with
    | some (.get (.builtin b) (.ref p) .none (.ref C)) => decide (b = "classmethod.__get__") && (decide (p = dA x m K) && decide (C = He.ga K x))
    | _ => false) && (headRef (PySem.W.recIn K (dA x m K) "classmethod") (uA "classmethod" x m K) && PySem.W.fnIn K (uA "classmethod" x m K))
  | .cread x => PySem.W.readsIn K (He.ga K x) tyT && He.eqO (PySem.W.specialIn K (.ref (He.ga K x)) "__getattribute__") (some (some (.builtin "type.__getattribute__")))
  | .cint x f i => (match PySem.W.findCls K (.ref (He.ga K x)) tyT f with
    | some (.val (.int j _)) => decide (j = i)
    | _ => false)
  | .kit x y b => decide (PySem.W.kitOne K (.ref (He.ga K x)) (.ref (He.ga K y)) = some b)
  | .kitT t y b => decide (PySem.W.kitOne K (.type t) (.ref (He.ga K y)) = some b)
  | .kitC x t b => decide (PySem.W.kitOne K (.ref (He.ga K x)) (.type t) = some b)
  | .ity x => He.eqO (PySem.W.findIn K (.ref (He.ga K x)) "__class__") (some (some (.builtin "object.__class__"))) && (He.eqO (PySem.W.specialIn K (.builtin "object.__class__") "__get__") (some (some (.builtin "getset_descriptor.__get__"))) && (decide (PySem.W.takesIn K (.builtin "object.__class__") = some true) && decide (PySem.W.mroIn K (He.ga K x) (.type "object") = some true)))
  | .neb x => He.eqO (PySem.W.findIn K (.ref (He.ga K x)) "__ne__") (some (some (.builtin "object.__ne__")))
  | .nfT x t => PySem.W.notFirst K (He.ga K x) (.type t)
  | .nfC x y => PySem.W.notFirst K (He.ga K x) (.ref (He.ga K y))
  | .sfx x => PySem.W.selfFirst K (He.ga K x)
  | .exc x B => PySem.W.excInitIn K (He.ga K x) (bmOf B) (B ++ ".__new__") && (PySem.W.excOver K (He.ga K x) (bmOf B) && (PySem.W.hasDictIn K (He.ga K x) && (He.eqO (PySem.W.findIn K (.ref (He.ga K x)) "__setattr__") (some (some (.builtin "object.__setattr__"))) && (decide (PySem.W.subIn K (.ref (He.ga K x)) (.type "BaseException") = some true) && (decide (PySem.W.typeIn K (.ref (He.ga K x)) = some (.type "type")) && (PySem.W.keepIn K (.ref (He.ga K x)) &&
    (He.eqO (PySem.W.findIn K (.ref (He.ga K x)) "__init__") (some (some (.ref (He.ma K (He.ga K x) "__init__")))) && (decide (PySem.W.typeIn K (.ref (He.ma K (He.ga K x) "__init__")) = some (.type "function")) && (He.eqO (PySem.W.findIn K (.ref (He.ga K x)) "__getattribute__") (some (some (.builtin "BaseException.__getattribute__"))) && (He.eqO (PySem.W.findIn K (.ref (He.ga K x)) "__getattr__") (some none) &&
    (He.eqO (PySem.W.findIn K (.ref (He.ga K x)) "__class__") (some (some (.builtin "object.__class__"))) && (He.eqO (PySem.W.specialIn K (.builtin "object.__class__") "__get__") (some (some (.builtin "getset_descriptor.__get__"))) && (decide (PySem.W.takesIn K (.builtin "object.__class__") = some true) && decide (PySem.W.mroIn K (He.ga K x) (.type "object") = some true))))))))))))))
  | .sup x y z => (clO (mA x "__init__") K).isSome && (fnRef (mA x "__init__") K && (cellOf (K.lookup (clA (mA x "__init__") K)) (He.ga K x) && (fileOf (K.lookup (cdA (mA x "__init__") K)) z && ((PySem.W.clsIn K (He.ga K x)).isSome && (decide (PySem.W.mroIn K (He.ga K x) (.ref (He.ga K x)) = some true) && (He.eqO (PySem.W.ks_superIn K (He.ga K x) (He.ga K x) "__init__") (some (some (.ref (He.ma K (He.ga K y) "__init__")))) && (decide (PySem.W.typeIn K (.ref (He.ma K (He.ga K y) "__init__")) = some (.type "function")) && (PySem.W.fnIn K (He.ma K (He.ga K y) "__init__") && He.eqO (PySem.W.nsIn K cStatics "thirdparty.any") (some none)))))))))
  | .same x y m => decide (He.ma K (He.ga K x) m = He.ma K (He.ga K y) m)
  | .kwd x ks => (match K.lookup (He.ga K x) with
    | some ⟨_, _, .func fd, _⟩ => He.kwdB K fd.kwdefaults (ks.map fun q => (q.1, q.2.v K))
    | _ => false)
  | .dgt => PySem.W.nsOkIn K cStatics && He.eqO (PySem.W.nsIn K cStatics "sys.int_max_str_digits") (some none)
  | .smd => (match K.lookup sysModules with
    | some ⟨.type c, _, _, _⟩ => decide (c = "dict")
    | _ => false)
  | .exm x y b => decide (PySem.W.exmOne K (.ref (He.ga K x)) (.ref (He.ga K y)) = some b)
  | .gtup x ns => (match K.lookup (He.ga K x) with
    | some ⟨.type c, none, .seq its _, _⟩ => decide (c = "tuple") && (decide (its.size ≤ 100) && decide (its.toList.map intOf = ns.map some))
    | _ => false)
section
variable {K : PySem.W.Frag}
theorem headRef_ok {o : Option (List Value)} {a : Addr} (h : headRef o a = true) : ∃ rest, o = some (.ref a :: rest) := by
  unfold headRef at h
  split at h
  · have e := of_decide_eq_true h
    subst e
    exact ⟨_, rfl⟩
  · cases h
theorem prop_ok {x f : Str} (c : (Fx.prop x f).ok K = true) : PropOf K (He.ga K x) f (dA x f K) (uA "property" x f K) := by
  obtain ⟨c1, c⟩ := He.ba c
  obtain ⟨c2, c⟩ := He.ba c
  obtain ⟨c3, c4⟩ := He.ba c
  exact ⟨He.eqO_ok c1, He.eqO_ok c2, of_decide_eq_true c3, headRef_ok c4⟩
theorem cread_ok {x : Str} (c : (Fx.cread x).ok K = true) : ClX.CRead K (He.ga K x) tyT := by
  obtain ⟨c1, c2⟩ := He.ba c
  exact ⟨c1, He.eqO_ok c2⟩
theorem cint_ok {x f : Str} {i : Int} (c : (Fx.cint x f i).ok K = true) : ∃ u, ClX.CVal K (He.ga K x) tyT f (.int i) u := by
  have c : (match PySem.W.findCls K (.ref (He.ga K x)) tyT f with
    | some (.val (.int j _)) => decide (j = i)
    | _ => false) = true := c
  split at c
  · rename_i j t e
    have ej := of_decide_eq_true c
    subst ej
    exact ⟨_, e, t, rfl⟩
  · cases c
end
def obsS (fa : List Fx) (fn : List DefE) (K : PySem.W.Frag) : He.AlD := ((fa.all fun f => f.ok K) && fn.all fun d => d.ok K, fn.map fun d => fnE d.sup K (d.at_ K))
def valS (fn : List DefE) : He.AlD := (true, fn.map DefE.val)
def SaysS (fa : List Fx) (fn : List DefE) (K : PySem.W.Frag) : Prop := obsS fa fn K = valS fn
def asS (_ : Addr → Option Obj) (n : Nat) : List Addr := List.range n
def obsSG (n : Nat) (fa : List Fx) (fn : List DefE) (g : Addr → Option Obj) : He.AlD := obsS fa fn (He.frG g (asS g n))
def hookS (n : Nat) (fa : List Fx) (fn : List DefE) : PySem.W.Hook where
  α := He.AlD
  obs := fun s => obsSG n fa fn s.heap.get?
  val := fun _ => valS fn
  says := fun _ h => ∃ K : PySem.W.Frag, K.In h ∧ SaysS fa fn K
  of := fun _ _ e => ⟨_, He.frG_in, e⟩
  keeps := fun _ _ _ ⟨K, hK, c⟩ k => ⟨K, PySem.W.Frag.In.keeps hK k, c⟩
theorem obsSG_eq {n : Nat} {fa : List Fx} {fn : List DefE} {g : Addr → Option Obj} {s : Shared} (h : ∀ a, g a = s.heap.get? a) : obsSG n fa fn g = (hookS n fa fn).obs s := by
  have e : g = s.heap.get? := funext h
  rw [e] <;> rfl
section
variable {fa : List Fx} {fn : List DefE} {K : PySem.W.Frag}
theorem SaysS.fact (c : SaysS fa fn K) (i : Nat) {f : Fx} (h : fa[i]? = some f := by rfl) : f.ok K = true := by
  have c1 := (He.ba (show ((fa.all fun f => f.ok K) && fn.all fun d => d.ok K) = true from congrArg (fun z : He.AlD => z.1) c)).1
  exact List.all_eq_true.mp c1 f (List.mem_of_getElem? h)
theorem SaysS.def_ (c : SaysS fa fn K) (i : Nat) {d : DefE} (h : fn[i]? = some d := by rfl) (hs : d.sup = false := by rfl) : ∃ fd, FunD K d.name d.qual d.params d.body d.scope (d.dvs K) [] (d.at_ K) fd := by
  have c2 := (He.ba (show ((fa.all fun f => f.ok K) && fn.all fun d => d.ok K) = true from congrArg (fun z : He.AlD => z.1) c)).2
  have e : fn.map (fun d => fnE d.sup K (d.at_ K)) = fn.map DefE.val := congrArg (fun z : He.AlD => z.2) c
  have e2 : (fn.map fun d => fnE d.sup K (d.at_ K))[i]? = (fn.map DefE.val)[i]? := by rw [e]
  rw [List.getElem?_map, List.getElem?_map, h] at e2
  have e3 : fnE d.sup K (d.at_ K) = d.val := Option.some.inj e2
  rw [hs] at e3
  exact DefE.funD e3 (List.all_eq_true.mp c2 d (List.mem_of_getElem? h))
end
abbrev Mk2 := (PySem.W.Frag → Addr) × Str
section
variable {fa : List Fx} {fn : List DefE} {tn : List Mk2} {K : PySem.W.Frag} {h : Heap}
end
end
end TS

set_option maxHeartbeats 0
namespace K21
open PySem L2 TS
def top (i : Nat) : Stmt := PySem.Challenge.pw_threeswaps_k21_addresses_and_places.main.body.getD i (.Pass ⟨0, 0, 0, 0⟩)
def dE (p : PySem.W.Frag → Addr) (nm q : Str) (s : Stmt) (dfl : List He.Dv) : DefE := ⟨p, nm, q, defArgs s, defBody s, defScope s, dfl, false⟩
def d__law_draw : DefE := dE (gA "_law_draw") "_law_draw" "_law_draw" (top 41) []
def d__law_pick : DefE := dE (gA "_law_pick") "_law_pick" "_law_pick" (top 42) []
def d__law_great : DefE := dE (gA "_law_great") "_law_great" "_law_great" (top 44) []
def d__law_least : DefE := dE (gA "_law_least") "_law_least" "_law_least" (top 48) []
def d__law_mixed : DefE := dE (gA "_law_mixed") "_law_mixed" "_law_mixed" (top 43) []
def d__law_rings : DefE := dE (gA "_law_rings") "_law_rings" "_law_rings" (top 45) []
def d__law_turns : DefE := dE (gA "_law_turns") "_law_turns" "_law_turns" (top 46) []
def d__law_table : DefE := dE (gA "_law_table") "_law_table" "_law_table" (top 47) []
def d__law_cycles : DefE := dE (gA "_law_cycles") "_law_cycles" "_law_cycles" (top 49) []
def d_Cycle_told : DefE := dE (mA "Cycle" "told") "told" "Cycle.told" (inClass (top 37) 1) []
def d_is_integer : DefE := dE (gA "is_integer") "is_integer" "is_integer" (top 12) []
def d_require_integer : DefE := dE (gA "require_integer") "require_integer" "require_integer" (top 13) [.non]
def d_divisor_of_two : DefE := dE (gA "divisor_of_two") "divisor_of_two" "divisor_of_two" (top 14) []
def d_common_divisor : DefE := dE (gA "common_divisor") "common_divisor" "common_divisor" (top 15) []
def d_in_lowest_terms : DefE := dE (gA "in_lowest_terms") "in_lowest_terms" "in_lowest_terms" (top 32) []
def d_ratio : DefE := dE (gA "ratio") "ratio" "ratio" (top 33) [.int 1]
def d_Cycle_lap : DefE := dE (mA "Cycle" "lap") "lap" "Cycle.lap" (inClass (top 37) 2) []
def d_Cycle_mean_speed : DefE := dE (mA "Cycle" "mean_speed") "mean_speed" "Cycle.mean_speed" (inClass (top 37) 4) []
def d_Cycle_lines_here : DefE := dE (mA "Cycle" "lines_here") "lines_here" "Cycle.lines_here" (inClass (top 37) 3) []
def d_cycles_in : DefE := dE (gA "cycles_in") "cycles_in" "cycles_in" (top 25) []
def d_running_sums : DefE := dE (gA "running_sums") "running_sums" "running_sums" (top 26) []
def d_Cycle___init__ : DefE := dE (mA "Cycle" "__init__") "__init__" "Cycle.__init__" (inClass (top 37) 0) []
def d_Plan_offsets : DefE := dE (mA "Plan" "offsets") "offsets" "Plan.offsets" (inClass (top 28) 7) []
def d_Plan_period : DefE := dE (uA "property" "Plan" "period") "period" "Plan.period" (inClass (top 28) 5) []
def d_Tracks___init__ : DefE := dE (mA "Tracks" "__init__") "__init__" "Tracks.__init__" (inClass (top 38) 0) []
def d_least_table : DefE := dE (gA "least_table") "least_table" "least_table" (top 20) []
def d_checked_table : DefE := dE (gA "checked_table") "checked_table" "checked_table" (top 19) []
def d_sources_of : DefE := dE (gA "sources_of") "sources_of" "sources_of" (top 27) []
def d_Plan___init__ : DefE := dE (mA "Plan" "__init__") "__init__" "Plan.__init__" (inClass (top 28) 1) []
def d__law_place : DefE := dE (gA "_law_place") "_law_place" "_law_place" (top 53) []
def d__law_address : DefE := dE (gA "_law_address") "_law_address" "_law_address" (top 50) []
def d_Cycle_has_address : DefE := dE (mA "Cycle" "has_address") "has_address" "Cycle.has_address" (inClass (top 37) 7) []
def d_Tracks_is_address : DefE := dE (mA "Tracks" "is_address") "is_address" "Tracks.is_address" (inClass (top 38) 6) []
def d_Cycle_place_at : DefE := dE (mA "Cycle" "place_at") "place_at" "Cycle.place_at" (inClass (top 37) 5) []
def d_Tracks_place : DefE := dE (mA "Tracks" "place") "place" "Tracks.place" (inClass (top 38) 7) []
def d_Cycle_address_of : DefE := dE (mA "Cycle" "address_of") "address_of" "Cycle.address_of" (inClass (top 37) 6) []
def d_Tracks_address : DefE := dE (mA "Tracks" "address") "address" "Tracks.address" (inClass (top 38) 5) []
def d__law_below : DefE := dE (gA "_law_below") "_law_below" "_law_below" (top 52) []
def d__law_drawn_address : DefE := dE (gA "_law_drawn_address") "_law_drawn_address" "_law_drawn_address" (top 54) []
def d__law_place_at : DefE := dE (gA "_law_place_at") "_law_place_at" "_law_place_at" (top 51) []
def d__law_right : DefE := dE (gA "_law_right") "_law_right" "_law_right" (top 55) []
def d__law_pot : DefE := dE (gA "_law_pot") "_law_pot" "_law_pot" (top 40) []
def d_law : DefE := dE (gA "law") "law" "law" (top 56) []
def fn : List DefE := ([d__law_draw, d__law_pick, d__law_great, d__law_least, d__law_mixed, d__law_rings, d__law_turns, d__law_table, d__law_cycles, d_Cycle_told, d_is_integer, d_require_integer, d_divisor_of_two, d_common_divisor, d_in_lowest_terms, d_ratio, d_Cycle_lap, d_Cycle_mean_speed, d_Cycle_lines_here, d_cycles_in, d_running_sums, d_Cycle___init__, d_Plan_offsets, d_Plan_period, d_Tracks___init__, d_least_table, d_checked_table, d_sources_of, d_Plan___init__, d__law_place, d__law_address, d_Cycle_has_address, d_Tracks_is_address, d_Cycle_place_at, d_Tracks_place, d_Cycle_address_of, d_Tracks_address, d__law_below, d__law_drawn_address, d__law_place_at, d__law_right, d__law_pot, d_law] : List DefE)
def fa : List Fx := ([.he (.free "len"), .he (.free "min"), .he (.free "max"), .he (.free "range"), .he (.free "divmod"), .he (.free "int"), .he (.glo "_law_draw"), .he (.glo "_law_pick"), .he (.glo "_law_great"), .he (.glo "_law_least"), .he (.free "list"), .he (.glo "_law_mixed"), .he (.glo "_law_rings"), .he (.free "sum"), .he (.glo "_law_turns"), .he (.free "zip"), .he (.glo "_law_table"), .he (.free "tuple"), .he (.glo "_law_cycles"), .he (.cls "Tracks"), .he (.noat "Tracks" "own_spots"), .he (.noat "Tracks" "own_line_cycles"), .he (.noat "Tracks" "own_round_cycles"), .he (.noat "Tracks" "own_ahead"), .he (.cls "Cycle"), .he (.noat "Cycle" "own_drift"), .he (.noat "Cycle" "own_remainders"), .he (.meth "Cycle" "told"), .he (.free "enumerate"), .he (.free "isinstance"), .he (.free "bool"), .he (.glo "is_integer"), .he (.glo "require_integer"), .he (.free "abs"), .he (.glo "divisor_of_two"), .he (.glo "common_divisor"), .he (.glo "in_lowest_terms"), .he (.glo "ratio"), .he (.meth "Cycle" "lap"), .he (.noat "Cycle" "own_period"), .he (.noat "Tracks" "own_period"), .he (.meth "Cycle" "mean_speed"), .he (.meth "Cycle" "lines_here"), .he (.noat "Tracks" "own_cycles"), .he (.glo "cycles_in"), .he (.noat "Cycle" "own_number"), .he (.noat "Cycle" "own_sums"), .he (.glo "running_sums"), .he (.mkr "Cycle"), .he (.glo "Cycle"), .he (.cls "Plan"), .he (.noat "Plan" "own_offsets"), .he (.meth "Plan" "offsets"), .prop "Plan" "period", .he (.mkr "Tracks"), .he (.glo "least_table"), .cread "Move", .cint "Move" "MAX_PERIOD" 2520, .he (.glo "Move"), .he (.glo "checked_table"), .cread "Plan", .cint "Plan" "SIGN" 1, .he (.glo "Plan"), .he (.noat "Plan" "own_sources"), .he (.glo "sources_of"), .he (.mkr "Plan"), .he (.glo "Tracks"), .he (.glo "_law_place"), .he (.glo "_law_address"), .he (.free "all"), .he (.str "ROUND" "round"), .he (.str "LINE" "line"), .he (.meth "Cycle" "has_address"), .he (.meth "Tracks" "is_address"), .he (.meth "Cycle" "place_at"), .he (.meth "Tracks" "place"), .he (.meth "Cycle" "address_of"), .he (.meth "Tracks" "address"), .smd, .he (.free "repr"), .he (.free "str"), .he (.glo "_law_below"), .he (.glo "_law_drawn_address"), .he (.glo "_law_place_at"), .he (.glo "_law_right"), .he (.glo "_law_pot"), .he (.glo "law")] : List Fx)
abbrev R : PySem.W.OpenRow := PySem.W.OpenLaw.row PySem.Challenge.rw_threeswaps_k21_addresses_and_places
abbrev hk : PySem.W.Hook := hookS 2000 fa fn
def ob (s : PySem.W.SharedT) : He.AlD := obsSG 2000 fa fn (HandSHeadRun.getT s)
theorem ob_eq (s : PySem.W.SharedT) : ob s = hk.obs s.abs := obsSG_eq (HandSHeadRun.getT_eq s)
def loose : List PySem.Str := (["_wall", "__name__", "ThreeswapsError", "InvalidInteger", "InvalidRatio", "InvalidTable", "InvalidAddress", "AbsentError", "NoTrack", "LimitError", "TooLong", "is_integer"] : List PySem.Str) ++ ((["require_integer", "divisor_of_two", "common_divisor", "common_multiple", "Move", "checked_table", "least_table", "table_text", "joint_multiple", "moved", "joined_table", "cycles_in"] : List PySem.Str) ++ ((["running_sums", "sources_of", "Plan", "is_ratio", "require_ratio", "in_lowest_terms", "ratio", "LINE", "ROUND", "Cycle", "Tracks", "_law_pot"] : List PySem.Str) ++ ((["_law_draw", "_law_pick", "_law_mixed", "_law_great", "_law_rings", "_law_turns", "_law_table", "_law_least", "_law_cycles", "_law_address", "_law_place_at", "_law_below"] : List PySem.Str) ++ ((["_law_place", "_law_drawn_address", "_law_right"] : List PySem.Str)))))
end K21

set_option maxHeartbeats 0
namespace K21
open PySem L2 TS
def obK (s : PySem.W.SharedT) : PySem.W.Frag := He.frG (HandSHeadRun.getT s) (asS (HandSHeadRun.getT s) 2000)
theorem map3 {α β γ δ : Type} {x : Option α} {f : α → β} {g : α → γ} {c : α → δ} {a : β} {b : γ} {d : δ} (h1 : x.map f = some a) (h2 : x.map g = some b) (h3 : x.map c = some d) : x.map (fun s => (f s, g s, c s)) = some (a, b, d) := by
  cases x with
  | none => cases h1
  | some s =>
    have h1 := Option.some.inj h1
    have h2 := Option.some.inj h2
    have h3 := Option.some.inj h3
    show some (f s, g s, c s) = _
    rw [h1, h2, h3]
theorem run_a (w : World) : ∀ os : OsState, (HandSHeadRun.endF (HandSHeadRun.stepQ (HandSHeadRun.denQ HandSHeadRun.tabQ) R.prog w) 12000 R.prog w os).map (fun s => HandSHeadRun.looksF R.prog (PySem.W.boot_heap w.params) s.abs) = some (true) := by
  intro os
  kernel_rfl
theorem run_b (w : World) : ∀ os : OsState, (HandSHeadRun.endF (HandSHeadRun.stepQ (HandSHeadRun.denQ HandSHeadRun.tabQ) R.prog w) 12000 R.prog w os).map (fun s => HandSHeadRun.seenQ (PySem.W.view R.prog [56]) loose (importedModules R.prog.main.body) (fun s => PySem.W.xlAt (PySem.W.view R.prog [56]) [] s && PySem.W.recOk R.toRowW.records s) s.abs) = some (PySem.W.openGood (PySem.W.view R.prog [56]) loose) := by
  intro os
  kernel_rfl
theorem run_c1 (w : World) : ∀ os : OsState, (HandSHeadRun.endF (HandSHeadRun.stepQ (HandSHeadRun.denQ HandSHeadRun.tabQ) R.prog w) 12000 R.prog w os).map (fun s => (fa.take 80).all fun f => f.ok (obK s)) = some (true) := by
  intro os
  kernel_rfl
theorem run_c2 (w : World) : ∀ os : OsState, (HandSHeadRun.endF (HandSHeadRun.stepQ (HandSHeadRun.denQ HandSHeadRun.tabQ) R.prog w) 12000 R.prog w os).map (fun s => (fa.drop 80).all fun f => f.ok (obK s)) = some (true) := by
  intro os
  kernel_rfl
theorem run_c3 (w : World) : ∀ os : OsState, (HandSHeadRun.endF (HandSHeadRun.stepQ (HandSHeadRun.denQ HandSHeadRun.tabQ) R.prog w) 12000 R.prog w os).map (fun s => (fn.take 40).all fun d => d.ok (obK s)) = some (true) := by
  intro os
  kernel_rfl
theorem run_c5 (w : World) : ∀ os : OsState, (HandSHeadRun.endF (HandSHeadRun.stepQ (HandSHeadRun.denQ HandSHeadRun.tabQ) R.prog w) 12000 R.prog w os).map (fun s => ((fn.drop 40).all fun d => d.ok (obK s))) = some (true) := by
  intro os
  kernel_rfl
theorem run_c4 (w : World) : ∀ os : OsState, (HandSHeadRun.endF (HandSHeadRun.stepQ (HandSHeadRun.denQ HandSHeadRun.tabQ) R.prog w) 12000 R.prog w os).map (fun s => (ob s).2) = some (fn.map DefE.val) := by
  intro os
  kernel_rfl
theorem all_cut {α : Type} (xs : List α) (p : α → Bool) (n : Nat) (h1 : (xs.take n).all p = true) (h2 : (xs.drop n).all p = true) : xs.all p = true := by
  rw [← List.take_append_drop n xs, List.all_append, h1, h2]
  rfl
theorem ob_cut {s : PySem.W.SharedT} {v : List He.FnW} (h1 : ((fa.take 80).all fun f => f.ok (obK s)) = true) (h2 : ((fa.drop 80).all fun f => f.ok (obK s)) = true) (h3 : ((fn.take 40).all fun d => d.ok (obK s)) = true) (h5 : (((fn.drop 40).all fun d => d.ok (obK s))) = true) (h4 : (ob s).2 = v) : ob s = (true, v) := by
  have e : (ob s).1 = ((fa.all fun f => f.ok (obK s)) && (fn.all fun d => d.ok (obK s))) := rfl
  rw [all_cut fa (fun f => f.ok (obK s)) 80 h1 h2, all_cut fn (fun d => d.ok (obK s)) 40 h3 h5] at e
  exact Prod.ext e h4
theorem run_c (w : World) (os : OsState) : (HandSHeadRun.endF (HandSHeadRun.stepQ (HandSHeadRun.denQ HandSHeadRun.tabQ) R.prog w) 12000 R.prog w os).map (fun s => ob s) = some (hk.val w) := by
  have h1 := run_c1 w os
  have h2 := run_c2 w os
  have h3 := run_c3 w os
  have h4 := run_c4 w os
  have h5 := run_c5 w os
  generalize HandSHeadRun.endF (HandSHeadRun.stepQ (HandSHeadRun.denQ HandSHeadRun.tabQ) R.prog w) 12000 R.prog w os = x at *
  cases x with
  | none => cases h1
  | some s => exact congrArg some (ob_cut (Option.some.inj h1) (Option.some.inj h2) (Option.some.inj h3) (Option.some.inj h5) (Option.some.inj h4))
theorem run (w : World) : HandSHeadRun.RunEq R (PySem.W.view R.prog [56]) hk ob 12000 loose w := by
  intro os
  exact map3 (run_a w os) (run_b w os) (run_c w os)
end K21

namespace PySem.W
section
variable {prog : Program} {w : World} {A : Around} {E : Value → Shared → Prop} {s : Shared} {K : Frag} {x C L f : Addr} {h₀ : Heap} {m : Str → Option Value} {ox : Obj} {od : Option Obj} {name : Str} {b tb : Value}
end
end PySem.W
namespace TS
open PySem L2
noncomputable section
abbrev Tg := String ⊕ Nat
def tagD : D → Option Tg
  | .non => some (.inl "NoneType")
  | .bl _ => some (.inl "bool")
  | .int _ => some (.inl "int")
  | .str _ => some (.inl "str")
  | .lst _ => some (.inl "list")
  | .tup _ => some (.inl "tuple")
  | .ktp _ => some (.inl "tuple")
  | .dK _ _ => some (.inl "dict")
  | .dT _ _ => none
  | .obj n _ => some (.inr n)
  | _ => none
def TgV (M : Gm) : Tg → Value → Prop
  | .inl s, v => v = .type s
  | .inr n, v => ∃ C, M.G n = some C ∧ v = .ref C
structure InsTy (K : PySem.W.Frag) (C : Addr) : Prop where
  cl : Cls K C
  ha : PySem.W.findIn K (.ref C) "__class__" = some (some (.builtin "object.__class__"))
  hn : PySem.W.specialIn K (.builtin "object.__class__") "__get__" = some (some (.builtin "getset_descriptor.__get__"))
  htk : PySem.W.takesIn K (.builtin "object.__class__") = some true
  hm : PySem.W.mroIn K C (.type "object") = some true
section
variable {M : Gm} {F H : Hp}
theorem tyx_of {d : D} {v : V} {t : Tg} (s : Same F H) (h : prep M F H d v) (e : tagD d = some t) (hI : ∀ n C, t = .inr n → M.G n = some C → InsTy M.K C) : ∃ tv, TgV M t tv ∧ TyX M.K H v tv := by
  cases d with
  | non => cases e; rw [prep_non h]; exact ⟨_, rfl, .base .non⟩
  | bl b => cases e; rw [prep_bl h]; exact ⟨_, rfl, .base (.bl b)⟩
  | int b => cases e; rw [prep_int h]; exact ⟨_, rfl, .base (.int b)⟩
  | str b => cases e; rw [prep_str h]; exact ⟨_, rfl, .base (.str b)⟩
  | lst ds =>
    cases e
    obtain ⟨a, vs, rfl, h2, _⟩ := prep_lst s h
    exact ⟨_, rfl, .base (.lst h2)⟩
  | tup ds =>
    cases e
    obtain ⟨a, vs, rfl, h2, _⟩ := prep_tup s h
    rcases h2 with (h2 | ⟨o, h2⟩) | ⟨o, its, n, h2, h3, _⟩
    · exact ⟨_, rfl, .base (.tup h2)⟩
    · exact ⟨_, rfl, .fTuple h2⟩
    · exact ⟨_, rfl, .kTuple h2 h3⟩
  | dK ks ds =>
    cases e
    obtain ⟨a, vs, rfl, h2, _⟩ := prep_dK s h
    rcases h2 with h2 | ⟨o, h2⟩
    · exact ⟨_, rfl, .base (.dK h2)⟩
    · exact ⟨_, rfl, .fDict h2⟩
  | dT ks ds => cases e
  | obj n ds =>
    cases e
    obtain ⟨a, C, dx, fs, rfl, h1, h2, _⟩ := prep_obj s h
    obtain ⟨k1, k2, k3, k4, k5⟩ := hI n C rfl h1
    exact ⟨_, ⟨C, h1, rfl⟩, .base (.ins h2 k1 k2 k3 k4 k5)⟩
  | scr ds => cases e
  | cls n => cases e
  | lam => cases e
  | ktp ns =>
    cases e
    obtain ⟨a, rfl, h2, _⟩ := prep_ktp (H := H) s h
    rcases h2 with (h2 | ⟨o, h2⟩) | ⟨o, its, n, h2, h3, _⟩
    · exact ⟨_, rfl, .base (.tup h2)⟩
    · exact ⟨_, rfl, .fTuple h2⟩
    · exact ⟨_, rfl, .kTuple h2 h3⟩
end
def IsT (M : Gm) (us : List Value) (tab : Tg → Option Bool) : Prop := ∀ t b tv, tab t = some b → TgV M t tv → PySem.W.kitAny M.K tv us = some b ∧ ∀ n C, t = .inr n → M.G n = some C → InsTy M.K C
def fIsi (tab : Tg → Option Bool) (fe : FD) : FD := fun δ => (fe δ).bind fun d δ => match tagD d with
  | some t => (match tab t with
    | some b => .ok (.bl b) δ
    | none => .bad)
  | none => .bad
section
variable {M : Gm} {c : Cn M} {W : WX} {X : Cx} {a c1 : Expr} {tab : Tg → Option Bool} {fe : FD} {p pos : Pos}
theorem kitAny_one {K : PySem.W.Frag} {t u : Value} {b : Bool} (h : PySem.W.kitAny K t [u] = some b) : PySem.W.kitOne K t u = some b := by
  unfold PySem.W.kitAny at h
  cases q : PySem.W.kitOne K t u with
  | none => rw [q] at h; cases h
  | some k =>
    rw [q] at h
    cases k with
    | true => exact h
    | false => exact h
theorem di_isi {v : V} {u : Value} (hg : Gl X "isinstance") (hm : X.mg "isinstance" = none) (ha : DP M W X a fe) (hc : PE X c1 (tC v)) (hv : ClsV v u) (T : IsT M [u] tab) (hK : X.K = M.K := by rfl)
    (hs : starEach [a, c1] X.env = (false, eval a X.env) :: starEach [c1] X.env := by rfl) (hs2 : starEach [c1] X.env = (false, eval c1 X.env) :: starEach [] X.env := by rfl)
    (mk : ∀ {t : TA}, PA X [a, c1] t → PE X (.Call (.Name "isinstance" p) [a, c1] [] pos) (tCB (rIsi X.K) t)) :
    DI M W X (.Call (.Name "isinstance" p) [a, c1] [] pos) (fIsi tab fe) := by
  obtain ⟨t, pp, h⟩ := ha
  refine ⟨_, mk (pa_cons pp (pa_cons hc pa_nil hs2) hs), fun c F H σ δ Q ok post => h c F H σ δ _ ok (Post.bind post fun d δ1 x F1 H1 _ s1 ok1 r post => ?_)⟩
  split at post
  · rename_i t e1
    split at post
    · rename_i b e2
      obtain ⟨tv, k1, k2⟩ := tyx_of ok1.same r e1 (fun n C h1 h2 => by
        have : ∃ tv, TgV M t tv := ⟨.ref C, by subst h1; exact ⟨C, h2, rfl⟩⟩
        obtain ⟨tv, h3⟩ := this
        exact (T t b tv e2 h3).2 n C h1 h2)
      have k3 := kitAny_one (T t b tv e2 k1).1
      exact ⟨x, v, tv, u, b, rfl, hv, by rw [hK]; exact k2, by rw [hK]; exact k3, post.ok ok1 (rep_bl' _)⟩
    · exact post.elim
  · exact post.elim
theorem di_isiT {es : List Expr} {kt : Nat} {tp : Pos} {vs : List V} {us : List Value} {ct : TA} (ha : DP M W X a fe) (hc : PA X es ct) (hct : ∀ σ H (Q : List V → Hp → Prop), Q vs H → ct σ H Q) (hv : Paired ClsV vs us) (hl : vs.length ≤ 100) (T : IsT M us tab) (hK : X.K = M.K := by rfl)
    (hs : starEach [a, .Tuple es kt tp] X.env = (false, eval a X.env) :: starEach [.Tuple es kt tp] X.env := by rfl) (hs2 : starEach [.Tuple es kt tp] X.env = (false, eval (.Tuple es kt tp) X.env) :: starEach [] X.env := by rfl)
    (mk : ∀ {t : TA}, PA X [a, .Tuple es kt tp] t → PE X (.Call (.Name "isinstance" p) [a, .Tuple es kt tp] [] pos) (tCB (rIsiT X.K) t)) :
    DI M W X (.Call (.Name "isinstance" p) [a, .Tuple es kt tp] [] pos) (fIsi tab fe) := by
  obtain ⟨t, pp, h⟩ := ha
  refine ⟨_, mk (pa_cons pp (pa_cons (pe_tup hc) pa_nil hs2) hs), fun c F H σ δ Q ok post => h c F H σ δ _ ok (Post.bind post fun d δ1 x F1 H1 _ s1 ok1 r post => ?_)⟩
  split at post
  · rename_i t e1
    split at post
    · rename_i b e2
      have hI : ∀ n C, t = .inr n → M.G n = some C → InsTy M.K C := fun n C h1 h2 => (T t b (.ref C) e2 (by subst h1; exact ⟨C, h2, rfl⟩)).2 n C h1 h2
      refine hct _ _ _ ⟨Nat.le_trans hl (by rw [sizeLine_eq]; decide), fun q hq => ?_⟩
      have ok2 : Ok c F1 (upd H1 q (.tup vs)) σ δ1 := ok1.alloc hq
      have r2 : prep M F1 (upd H1 q (.tup vs)) d x := by
        rcases r with r | ⟨o, a', e3, e4, e5⟩
        · exact .inl r
        · obtain ⟨u', hu'⟩ := obAt_some e5
          exact .inr ⟨o, a', e3, e4, obAt_mono (Same.refl _) (upd_ne (ne_of_none hu' hq)) e5⟩
      obtain ⟨tv, k1, k2⟩ := tyx_of ok2.same r2 e1 hI
      exact ⟨x, q, vs, tv, us, b, rfl, upd_same, hv, by rw [hK]; exact k2, by rw [hK]; exact (T t b tv e2 k1).1, post.ok ok2 (rep_bl' _)⟩
    · exact post.elim
  · exact post.elim
end
end
end TS

namespace TS
open PySem L2
noncomputable section
def OpDI (M : Gm) (r : R2) (g : D → D → Option R) : Prop := ∀ (c : Cn M) (F H : Hp) (σ : St) (δ : Sl) (x y : V) (dx dy : D) (z : R) (Q : VK), Ok c F H σ δ → rep M F dx x → rep M F dy y → g dx dy = some z →
  (∀ v F' H', Same F F' → Ok c F' H' σ δ → repR c F' H' σ δ z v → Q v H') → r x y H Q
section
variable {M : Gm} {c : Cn M} {W : WX} {X : Cx} {a b : Expr} {pos : Pos} {fa fb : FD} {r r' : R2} {g g' : D → D → Option R}
theorem OpD.I (h : OpD M r g) : OpDI M r g := fun c F H σ δ x y dx dy z Q ok px py e q => h c F H σ δ x y dx dy z Q ok (.inl px) (.inl py) e q
theorem OpDI.or (h : OpDI M r g) (h' : OpDI M r' g') : OpDI M (fun x y H Q => r x y H Q ∨ r' x y H Q) (gOr g g') := by
  intro c F H σ δ x y dx dy z Q ok px py e q
  unfold gOr at e
  cases e1 : g dx dy with
  | some w => rw [e1] at e; cases e; exact .inl (h c F H σ δ x y dx dy _ Q ok px py e1 q)
  | none => rw [e1] at e; exact .inr (h' c F H σ δ x y dx dy z Q ok px py e q)
end
section
variable {X : Cx} {pins : List (Addr × Obj)} {σ : St} {H : Hp} {s : Shared}
theorem takes0 : Takes X W0 := fun u s' ⟨a, B, sI, pins, σ, H, cls, d, e, I, nb, up, sky, na, os, ag, w⟩ => w.elim
end
def fUnI (g : Int → Int) (fe : FD) : FD := fun δ => (fe δ).bind fun d δ => match d with
  | .int i => .ok (.int (g i)) δ
  | _ => .bad
section
variable {M : Gm} {c : Cn M} {W : WX} {X : Cx} {a b : Expr} {pos : Pos} {fa fb : FD}
theorem di_neg (ha : DI M W X a fa) : DI M W X (.UnaryOp .USub a pos) (fUnI (fun i => -i) fa) := by
  obtain ⟨t, p, h⟩ := ha
  refine ⟨_, pe_un un_neg p, fun c F H σ δ Q ok post => h c F H σ δ _ ok (Post.bind post fun d δ1 v F1 H1 _ s1 ok1 r post => ?_)⟩
  split at post
  · rename_i i _
    have ev : v = .int i := by unfold ρD rep at r; exact r
    exact ⟨i, ev, post.ok ok1 (rep_int' _)⟩
  · exact post.elim
theorem de_dnew : DE M W X (.Dict [] [] pos) (fun δ => .ok (.own (.dK [] [])) δ) :=
  ⟨_, pe_dnewK, fun c F H σ δ Q ok post => fun p hp => post.ok (ok.alloc hp) (ok.made hp ⟨[], upd_same, rfl, reps_nil⟩)⟩
end
def setF (vs : List D) (j : Nat) (d : D) : Option (List D) := if vs.length = j then some (vs ++ [d]) else if j < vs.length then some (vs.set j d) else none
theorem putF_new {f : Str} {v : V} : ∀ {fs : List (Str × V)}, f ∉ fs.map (·.1) → putF f v fs = fs ++ [(f, v)]
  | [], _ => rfl
  | (g, x) :: r, h => by
    simp only [List.map_cons, List.mem_cons, not_or] at h
    simp only [putF, if_neg (Ne.symm h.1), List.cons_append]
    rw [putF_new h.2]
theorem putF_at {f : Str} {v : V} : ∀ {fs : List (Str × V)} {j : Nat}, (fs.map (·.1))[j]? = some f → f ∉ (fs.map (·.1)).take j → putF f v fs = fs.set j (f, v)
  | [], j, h, _ => by simp at h
  | (g, x) :: r, 0, h, _ => by
    simp at h
    subst h
    simp [putF]
  | (g, x) :: r, j + 1, h, hn => by
    simp at h
    simp only [List.map_cons, List.take_succ_cons, List.mem_cons, not_or] at hn
    simp only [putF, if_neg (Ne.symm hn.1), List.set_cons_succ]
    rw [putF_at (by simpa using h) hn.2]
theorem setF_ok {M : Gm} {F : Hp} {n j : Nat} {f : Str} {vs vs' : List D} {d : D} {v : V} {fs : List (Str × V)} (hj : (M.nm n)[j]? = some f) (hn : f ∉ (M.nm n).take j) (h3 : fs.map (·.1) = (M.nm n).take vs.length) (h4 : reps M F vs (fs.map (·.2))) (rv : rep M F d v) (e : setF vs j d = some vs') :
    (putF f v fs).map (·.1) = (M.nm n).take vs'.length ∧ reps M F vs' ((putF f v fs).map (·.2)) := by
  have hjl : j < (M.nm n).length := (List.getElem?_eq_some_iff.mp hj).1
  unfold setF at e
  split at e
  · rename_i hl
    cases e
    rw [putF_new (by rw [h3, hl]; exact hn)]
    constructor
    · rw [List.map_append, h3, List.length_append, hl]
      show (M.nm n).take j ++ [f] = (M.nm n).take (j + 1)
      rw [List.take_succ, hj]; rfl
    · rw [List.map_append]; exact reps_append h4 (reps_cons rv reps_nil)
  · split at e
    · rename_i hl hlt
      cases e
      rw [putF_at (j := j) (by rw [h3, List.getElem?_take_of_lt hlt]; exact hj) (by rw [h3, List.take_take, Nat.min_eq_left (Nat.le_of_lt hlt)]; exact hn)]
      constructor
      · rw [List.map_set, List.length_set, h3]
        apply List.ext_getElem?
        intro i
        by_cases hi : j = i
        · subst hi
          rw [List.getElem?_set_self (by rw [List.length_take]; omega), List.getElem?_take_of_lt hlt, hj]
        · rw [List.getElem?_set_ne hi]
      · rw [List.map_set]; exact reps_set j h4 rv
    · cases e
def sFldS (i : Nat) (ix : Nat → Option Nat) (fe : FD) : FS := fun δ => (fe δ).bindS fun d δ1 => match δ1[i]? with
  | some (some (.own (.o n vs))) => (match ix n with
    | some j => (match setF vs j d with
      | some vs' => .nx (δ1.set i (some (.own (.o n vs'))))
      | none => .bad)
    | none => .bad)
  | some (some (.brw (.o n vs))) => (match ix n with
    | some j => (match setF vs j d with
      | some vs' => .nx (δ1.set i (some (.brw (.o n vs'))))
      | none => .bad)
    | none => .bad)
  | _ => .bad
section
variable {M : Gm} {c : Cn M} {W : WX} {X : Cx}
theorem ds_fld {o e : Expr} {i : Nat} {f : Str} {ix : Nat → Option Nat} {fe : FD} {pos pos' : Pos} (T : FldT M f ix) (hlen : ∀ n, (M.nm n).length < 1000) (ho : PE X o (tVar i)) (he : DI M W X e fe) (hK : X.K = M.K := by rfl) (hs : swapsWith e (some (.Attribute o f pos')) pos.line X.env = pure false := by rfl) :
    DS M W X (.Assign [.Attribute o f pos'] e pos) (sFldS i ix fe) := by
  obtain ⟨t, p, h⟩ := he
  refine ⟨_, ps_fld ho p hs, fun c F H σ δ E ok post => h c F H σ δ _ ok (PostS.ofE post fun d δ1 v F1 H1 _ s1 ok1 r post => ?_)⟩
  have key : ∀ (mkr : OB → R) (n : Nat) (vs : List D), (mkr = R.own ∨ mkr = R.brw) → δ1[i]? = some (some (mkr (.o n vs))) →
      PostS c W F1 (match ix n with | some j => (match setF vs j d with | some vs' => .nx (δ1.set i (some (mkr (.o n vs')))) | none => .bad) | none => .bad) E → ∃ v0, σ[i]? = some (some v0) ∧ ∃ a C dx fs, v0 = V.ref a ∧ H1 a = some (.ins C dx fs) ∧ Cls X.K C ∧ NoAttr X.K C f ∧ fs.length < 1000 ∧ E.nx σ (upd H1 a (.ins C dx (putF f v fs))) := by
    intro mkr n vs hk q post
    split at post
    · rename_i j hj
      split at post
      · rename_i vs' hv
        have hm : (mkr (.o n vs)).mu = true := by rcases hk with rfl | rfl <;> rfl
        obtain ⟨a, ob, ea, hf, hob, hkk⟩ := ok1.mus q hm
        have eob : ob = .o n vs := by
          rcases hk with rfl | rfl
          · rcases hkk with ⟨z, _⟩ | ⟨z, _⟩ <;> cases z; rfl
          · rcases hkk with ⟨z, _⟩ | ⟨z, _⟩ <;> cases z; rfl
        subst eob
        obtain ⟨C, dx, fs, h1, h2, h3, h4⟩ := hob
        obtain ⟨k1, k2, k3⟩ := T n j hj
        obtain ⟨p1, p2⟩ := setF_ok k2 k3 h3 h4 r hv
        refine ⟨.ref a, ea, a, C, dx, fs, rfl, h2, by rw [hK]; exact (k1 C h1).1, by rw [hK]; exact (k1 C h1).2, ?_, ?_⟩
        · have := congrArg List.length h3
          rw [List.length_map, List.length_take] at this
          have := hlen n
          omega
        · have rel : (mkr (.o n vs) = .own (.o n vs) ∧ mkr (.o n vs') = .own (.o n vs')) ∨ (mkr (.o n vs) = .brw (.o n vs) ∧ mkr (.o n vs') = .brw (.o n vs')) := by
            rcases hk with rfl | rfl
            · exact .inl ⟨rfl, rfl⟩
            · exact .inr ⟨rfl, rfl⟩
          exact post F1 _ σ (Same.refl _) (ok1.write q rel ea ⟨C, dx, _, h1, upd_same, p1, p2⟩)
      · exact post.elim
    · exact post.elim
  split at post
  · rename_i n vs q
    exact key R.own n vs (.inl rfl) q post
  · rename_i n vs q
    exact key R.brw n vs (.inr rfl) q post
  · exact post.elim
end
section
variable {M : Gm} {P : Program} {w : World} {mg : Str → Option Value} {base : Heap} {k : Nat} {f : Addr} {fm : Fm}
def fmDfl (fm : Fm) (dd : List D) : Fm := fun io ds => fm io (ds ++ dd)
theorem fnR_dfl {dd : List D} {dvs : List V} (hr : ∀ F, reps M F dd dvs) (F : FnR P w M.K mg base (L2.CX P w) k f (fun vs H Q E => spD M fm (vs ++ dvs) H Q E)) : FnR P w M.K mg base (L2.CX P w) k f (spD M (fmDfl fm dd)) :=
  F.imp fun vs H Q E h => by
    obtain ⟨F0, io, a, ws, ds, rfl, s, tb, rs, ia, h⟩ := h
    exact ⟨F0, io, a, ws ++ dvs, ds ++ dd, by rw [List.append_assoc], s, tb, reps_append rs (hr F0), ia, h⟩
theorem fnR_raw {fd : FuncData} {ps : List Str} (F : FnOk P w M.K mg base (L2.CX P w) k f fd ps (spD M fm)) (hb : Binds M.K fd ps []) : FnR P w M.K mg base (L2.CX P w) k f (spD M fm) :=
  (F.raw (dvs := []) hb .nil).imp fun vs H Q E h => by rw [List.append_nil]; exact h
def fmStar (np : Nat) (fm : Fm) : Fm := fun io ds => match io with
  | none => if decide (np ≤ ds.length ∧ ds.length ≤ 16777216) then fm none (ds.take np ++ [.tup (ds.drop np)]) else .bad
  | some _ => .bad
theorem star_imp {np : Nat} {vs : List V} {H : Hp} {Q : VK} {E : XK} (h : spD M (fmStar np fm) vs H Q E) : ∃ ws rest, vs = ws ++ rest ∧ ws.length = np ∧ rest.length ≤ sizeLine ∧ ∀ p, H p = Option.none → spD M fm (ws ++ [V.ref p]) (upd H p (.tup rest)) Q E := by
  obtain ⟨F, io, a, ws, ds, rfl, s, tb, rs, ia, h⟩ := h
  unfold fmStar at h
  cases io with
  | some o => exact h.elim
  | none =>
    by_cases hc : np ≤ ds.length ∧ ds.length ≤ 16777216
    · simp only [decide_eq_true hc, if_true] at h
      have hl := reps_length rs
      refine ⟨ws.take np, ws.drop np, by simp [ioV], by rw [List.length_take, hl]; omega, by rw [List.length_drop, hl, sizeLine_eq]; omega, fun p hp => ?_⟩
      have hF : F p = none := s.free hp
      have g : Same F (upd F p (.tup (ws.drop np))) := fun b o e => by rw [upd_ne (ne_of_none e hF)]; exact e
      have hs2 : Same (upd F p (.tup (ws.drop np))) (upd H p (.tup (ws.drop np))) := fun b o e => by
        by_cases q : b = p
        · subst q; rw [upd_same] at e ⊢; exact e
        · rw [upd_ne q] at e ⊢; exact s b o e
      refine ⟨upd F p (.tup (ws.drop np)), none, a, _, ds.take np ++ [.tup (ds.drop np)], rfl, hs2, (tb.alloc hp).frz upd_same rfl, reps_append (reps_mono g _ _ (reps_take np rs)) (reps_cons ?_ reps_nil), trivial, ?_⟩
      · unfold rep
        exact ⟨p, _, rfl, upd_same, reps_mono g _ _ (reps_drop np rs)⟩
      · have stp : ∀ {F' H' : Hp}, Stp M (upd F p (.tup (ws.drop np))) (upd H p (.tup (ws.drop np))) F' H' none → Stp M F H F' H' none := fun {F' H'} st => by
          refine ⟨g.trans st.grow, fun b o e1 n e2 => ?_, fun b o e1 n e2 => ?_, st.same, st.tb⟩
          · have q : b ≠ p := fun z => by rw [z, hp] at e1; cases e1
            exact st.nofz b o (by rw [upd_ne q]; exact e1) n (by rw [upd_ne q]; exact e2)
          · have q : b ≠ p := fun z => by rw [z, hp] at e1; cases e1
            exact st.kept b o (by rw [upd_ne q]; exact e1) n (fun z => by cases z)
        cases q : fm none (ds.take np ++ [.tup (ds.drop np)]) with
        | bad => rw [q] at h; exact h
        | exc x io' => rw [q] at h; exact fun cls d F' H' st xa ia => h cls d F' H' (stp st) xa ia
        | ok r io' =>
          rw [q] at h
          intro v F' H' st ra ia
          refine h v F' H' (stp st) ?_ ia
          cases r with
          | imm d => exact ra
          | brw o => exact ra
          | nst tp ps =>
            obtain ⟨a, vs, h1, h2, h3⟩ := ra
            refine ⟨a, vs, h1, h2, fun b hb => ⟨(h3 b hb).1, fun u hu => ?_⟩⟩
            have z : b ≠ p := fun z => by rw [z, hp] at hu; cases hu
            exact (h3 b hb).2 u (by rw [upd_ne z]; exact hu)
          | own o =>
            obtain ⟨b, rfl, k1, k2, k3⟩ := ra
            refine ⟨b, rfl, k1, fun u hu => ?_, k3⟩
            have z : b ≠ p := fun z => by rw [z, hp] at hu; cases hu
            exact k2 u (by rw [upd_ne z]; exact hu)
    · simp only [decide_eq_false hc] at h
      exact h.elim
theorem funD_star {x qual : Str} {params : Arguments} {body : List Stmt} {scope : Scope} {kws : List (Str × V)} {fd : FuncData} {N ps : List Str} {pv : Str} {g : FS} (F : FunD M.K x qual params body scope [] kws f fd) (S : FnScope N (ps ++ [pv]) scope) (hN : (ps ++ [pv]).length ≤ N.length)
    (hbi : ∀ (kV doc pm : Value) (an : Option Addr) (cdv ct : Value) (us rest : List Value), us.length = ps.length → bindArgs (PySem.W.fnOf x qual params body scope .none kV doc pm an cdv ct) ⟨us ++ rest, []⟩ = (newTuple rest >>= fun t => pure (ps.zip us ++ [(pv, t)])))
    (hb : ∀ (cdv : Value) (A : Around) (outer : List Env) (s : Shared) (H : Hp) (E : XK), Room k (A.deeper (PyProof.Rows.envOfC qual scope s.heap.objs.size f cdv)) →
      Takes (cxOf (L2.CX P w) P w M.K mg base N qual scope f cdv A outer s H E) (fun cls d _ H => E cls d H) →
      PassesOwn (model P w) (A.deeper (PyProof.Rows.envOfC qual scope s.heap.objs.size f cdv)) (PyProof.Rows.envOfC qual scope s.heap.objs.size f cdv) (cxOf (L2.CX P w) P w M.K mg base N qual scope f cdv A outer s H E).xe →
      DSs M (fun cls d _ H => E cls d H) (cxOf (L2.CX P w) P w M.K mg base N qual scope f cdv A outer s H E) body g) :
    FnR P w M.K mg base (L2.CX P w) (k + 1) f (spD M (fmStar ps.length (mir N.length (ps ++ [pv]).length g))) := by
  obtain ⟨oc, od, dV, kV, doc, pm, an, cdv, ct, osl, rfl, lk, hcd, hD, _⟩ := F.ex
  obtain rfl : dV = .none := by
    rcases hD with ⟨_, e⟩ | ⟨e, _⟩
    · exact e
    · exact absurd rfl e
  refine (FnR.star (sp := spD M (mir N.length (ps ++ [pv]).length g)) lk hcd S StX.cxUp (hbi kV doc pm an cdv ct) (fun A outer s H vs Q E hr h => ?_)).imp fun vs H Q E h => star_imp h
  obtain ⟨t, p, ht⟩ := hb cdv A outer s H E hr (takes_of rfl rfl rfl rfl) (passes_of rfl)
  exact ⟨t, p, body_ok hN h ht⟩
end
end
end TS

namespace TS
open PySem L2
noncomputable section
def FnK (P : Program) (w : World) (K : PySem.W.Frag) (mg : Str → Option Value) (base : Heap) (CX : CXT) (k : Nat) (f : Addr) (n : Nat) (ks : List Str) (sp : Sp) : Prop :=
  ∀ (A : Around) (outer : List Env) (s : Shared) (H : Hp) (us ws : List Value) (vs zs : List V) (Q : VK) (E : XK), Room k A → Env0 P w K mg base A outer s H → vs.length = n → zs.length = ks.length → Vals vs us → Vals zs ws → sp (vs ++ zs) H Q E →
    codeAny (model P w) A (.call (.ref f) ⟨us, ks.zip ws⟩) (CR CX outer P w H s Q E) s
section
variable {P : Program} {w : World} {K : PySem.W.Frag} {mg : Str → Option Value} {base : Heap} {CX : CXT} {j k n : Nat} {ks : List Str} {f : Addr} {sp sp' : Sp}
theorem FnK.mono (F : FnK P w K mg base CX j f n ks sp) (h : j ≤ k) : FnK P w K mg base CX k f n ks sp := fun A outer s H us ws vs zs Q E hr => F A outer s H us ws vs zs Q E (hr.mono h)
theorem FnOk.kw {fd : FuncData} {ps : List Str} {g : List Value → List Value → List Value} {gV : List V → List V → List V} (F : FnOk P w K mg base CX k f fd ps sp) (hb : KBn K fd ps n ks g gV)
    (hi : ∀ vs zs H Q E, vs.length = n → zs.length = ks.length → sp' (vs ++ zs) H Q E → sp (gV vs zs) H Q E) : FnK P w K mg base CX k f n ks sp' := by
  intro A outer s H us ws vs zs Q E hr e0 l1 l2 r rz h
  exact F.run A outer s H ⟨us, ks.zip ws⟩ (g us ws) (gV vs zs) Q E hr e0 (hb.to s us ws (e0.mod.kin.keeps fun b o e => (e0.bs b o e).1) (r.length.symm.trans l1) (rz.length.symm.trans l2)) (hb.rel r rz) (hi vs zs H Q E l1 l2 h)
end
theorem kb_app {K : PySem.W.Frag} {x qual : Str} {params : Arguments} {body : List Stmt} {scope : Scope} {kws : List (Str × V)} {f : Addr} {fd : FuncData} {ps ks : List Str} {n : Nat} (F : FunD K x qual params body scope [] kws f fd)
    (h : ∀ (kV doc pm : Value) (an : Option Addr) (cdv ct : Value) (us ws : List Value), us.length = n → ws.length = ks.length → bindArgs (PySem.W.fnOf x qual params body scope .none kV doc pm an cdv ct) ⟨us, ks.zip ws⟩ = pure (ps.zip (us ++ ws))) : KBn K fd ps n ks (fun us ws => us ++ ws) (fun vs zs => vs ++ zs) := by
  obtain ⟨oc, od, dV, kV, doc, pm, an, cdv, ct, osl, rfl, lk, hcd, hD, hK⟩ := F.ex
  rcases hD with ⟨_, rfl⟩ | ⟨e, _⟩
  · exact ⟨fun s us ws _ l1 l2 => .of_eq (h kV doc pm an cdv ct us ws l1 l2), fun r rz => r.append rz⟩
  · exact absurd rfl e
section
variable {M : Gm} {P : Program} {w : World} {mg : Str → Option Value} {base : Heap} {k n : Nat} {ks : List Str} {f : Addr} {fm : Fm}
theorem fnK_app {fd : FuncData} {ps : List Str} (F : FnOk P w M.K mg base (L2.CX P w) k f fd ps (spD M fm)) (hb : KBn M.K fd ps n ks (fun us ws => us ++ ws) (fun vs zs => vs ++ zs)) : FnK P w M.K mg base (L2.CX P w) k f n ks (spD M fm) :=
  FnOk.kw F hb fun vs zs H Q E _ _ h => h
end
section
variable {X : Cx} {W : WX} {pins : List (Addr × Obj)} {σ : St} {H : Hp} {s : Shared}
theorem run_fnK {k n : Nat} {ks : List Str} {f : Addr} {sp : Sp} {Q : VK} {us ws : List Value} {vs zs : List V} (F : FnK X.prog X.w X.K X.mg X.base (CXX X) k f n ks sp) (hr : Room k X.A) (tk : Takes X W) (I : Inv X pins σ H s) (l1 : vs.length = n) (l2 : zs.length = ks.length) (r : Vals vs us) (rz : Vals zs ws) (h : sp (vs ++ zs) H Q (WE W σ)) :
    wpAny (model X.prog X.w) X.A (call (.ref f) us (ks.zip ws)) (EP X pins σ Q) X.xe s := by
  refine wpAny_call (codeAny_mono (F X.A X.stack s H us ws vs zs Q (WE W σ) hr I.env0 l1 l2 r rz h) fun r s' hq => ?_)
  cases r with
  | error e => exact passAt tk σ pins H s e s' I hq
  | ok fl =>
    cases fl with
    | ret u => exact I.after hq
    | next => exact False.elim hq
    | brk => exact False.elim hq
    | cont => exact False.elim hq
end
section
variable {X : Cx} {W : WX} {k n : Nat} {ks : List Str} {kws : List Keyword} {f C : Addr} {sp : Sp} {x m : Str} {e o : Expr} {es : List Expr} {ta : TE} {t tkw : TA} {p pos apos : Pos}
end
def DKw (M : Gm) (W : WX) (X : Cx) (kws : List Keyword) (f : FA) : Prop := ∃ t, PK X kws t ∧ ∀ (c : Cn M) F H σ δ Q, Ok c F H σ δ → Post c W F σ (ρA c) (f δ) Q → t σ H Q
def fOwnK (f : Fm) (n m : Nat) (fa fk : FA) : FE := fun δ => (fa δ).bind fun ds δ1 => (fk δ1).bind fun es δ2 => if ds.length = n ∧ es.length = m then outE (f none (ds ++ es)) δ2 else .bad
section
variable {M : Gm} {c : Cn M} {W : WX} {X : Cx} {e : Expr} {es : List Expr} {kws : List Keyword} {fa fk : FA} {f : Fm} {n m : Nat}
theorem dk_nil : DKw M W X [] aNil := ⟨_, pk_nil, fun c F H σ δ Q ok post => post.ok ok reps_nil⟩
theorem dk_cons {fe : FD} {nm : Option Str} {kpos : Pos} (he : DI M W X e fe) (hr : DKw M W X kws fk) : DKw M W X (⟨nm, e, kpos⟩ :: kws) (aCons fe fk) := by
  obtain ⟨t, p, h⟩ := he
  obtain ⟨t', p', h'⟩ := hr
  refine ⟨_, pk_cons p p', fun c F H σ δ Q ok post => h c F H σ δ _ ok (Post.bind post fun d δ1 v F1 H1 _ s1 ok1 r post => h' c F1 H1 σ δ1 _ ok1 (Post.bind post fun ds δ2 vs F2 H2 _ s2 ok2 rs post => ?_))⟩
  exact post.ok ok2 (reps_cons (rep_mono s2 _ _ r) rs)
end
end
end TS

namespace TS
open PySem L2
noncomputable section
def gAdd : D → D → Option R := gOr (gI (fun _ _ => true) fun i j => i + j) (gOr gCat gCatS)
def gMul : D → D → Option R := gOr (gI CMulB fun i j => i * j) gRep
abbrev gSub : D → D → Option R := gI (fun _ _ => true) fun i j => i - j
def gFdiv : D → D → Option R := gOr (gI CDivB fun i j => i / j) (gI CDivNB fun i j => i.fdiv j)
abbrev gMod : D → D → Option R := gI CModB fun i j => i % j
abbrev gPow : D → D → Option R := gI CPowB fun i j => i ^ j.toNat
abbrev gLt : D → D → Option R := gB fun i j => decide (i < j)
abbrev gLe : D → D → Option R := gB fun i j => decide (i ≤ j)
abbrev gGt : D → D → Option R := gB fun i j => decide (j < i)
abbrev gGe : D → D → Option R := gB fun i j => decide (j ≤ i)
def rAddAll : R2 := fun x y H Q => rI0 (fun i j => .int (i + j)) x y H Q ∨ (rCat x y H Q ∨ (∃ i j, x = .str i ∧ y = .str j ∧ i.length + j.length ≤ sizeLine ∧ Q (.str (i ++ j)) H))
def rMulAll : R2 := fun x y H Q => rI CMulW (fun i j => .int (i * j)) x y H Q ∨ rRep x y H Q
section
variable {M : Gm} {c : Cn M} {W : WX} {X : Cx} {a b : Expr} {pos p : Pos} {fa fb : FD} {i : Nat}
theorem op_addAll : OpR X (binaryOp .Add) rAddAll := OpR.or op_add (OpR.or op_cat op_add_str)
theorem op_mulAll : OpR X (binaryOp .Mult) rMulAll := OpR.or op_mulW op_rep
theorem od_addAll : OpD M rAddAll gAdd := OpD.or od_I0 (OpD.or od_cat od_catS)
theorem od_mulAll : OpD M rMulAll gMul := OpD.or od_mul od_rep
theorem x_add (ha : DI M W X a fa) (hb : DP M W X b fb) : DE M W X (.BinOp a .Add b pos) (fBin gAdd fa fb) := d_op (fun h h' => pe_op op_addAll h h') od_addAll ha hb
theorem x_mul (ha : DI M W X a fa) (hb : DP M W X b fb) : DE M W X (.BinOp a .Mult b pos) (fBin gMul fa fb) := d_op (fun h h' => pe_op op_mulAll h h') od_mulAll ha hb
theorem x_sub (ha : DI M W X a fa) (hb : DP M W X b fb) : DE M W X (.BinOp a .Sub b pos) (fBin gSub fa fb) := d_op (fun h h' => pe_op op_sub h h') od_sub ha hb
theorem op_fdivNeg : OpR X (binaryOp .FloorDiv) (rI (fun _ j => j < 0 ∧ j.natAbs.log2 < 9000) fun i j => .int (i.fdiv j)) := opI fun i j _ _ _ _ _ hc q => PyProof.Rows.floordiv_int (by have := hc.1; omega) q (.inl (PyProof.noPylong_of_log2 hc.2))
theorem x_fdiv (ha : DI M W X a fa) (hb : DP M W X b fb) : DE M W X (.BinOp a .FloorDiv b pos) (fBin gFdiv fa fb) := d_op (fun h h' => pe_op (OpR.or op_fdivW op_fdivNeg) h h') (OpD.or od_fdiv od_fdivN) ha hb
theorem x_mod (ha : DI M W X a fa) (hb : DP M W X b fb) : DE M W X (.BinOp a .Mod b pos) (fBin gMod fa fb) := d_op (fun h h' => pe_op op_mod h h') od_mod ha hb
theorem x_pow (ha : DI M W X a fa) (hb : DP M W X b fb) : DE M W X (.BinOp a .Pow b pos) (fBin gPow fa fb) := d_op (fun h h' => pe_op op_pow h h') od_pow ha hb
theorem t_lt (ha : DI M W X a fa) (hb : DP M W X b fb) : DT M W X (.Compare a [.Lt] [b] pos) (fTst (fBin gLt fa fb)) := dt_op (fun h h' => pt_cmpR op_lt h h' (nomark _)) od_B ha hb
theorem t_gt (ha : DI M W X a fa) (hb : DP M W X b fb) : DT M W X (.Compare a [.Gt] [b] pos) (fTst (fBin gGt fa fb)) := dt_op (fun h h' => pt_cmpR op_gt h h' (nomark _)) od_B ha hb
theorem t_notN (ha : DI M W X a fa) (hb : DP M W X b fb) : DT M W X (.Compare a [.IsNot] [b] pos) (fTst (fBin gNotN fa fb)) := dt_op (fun h h' => pt_cmpR op_notN h h' (nomark _)) od_notN ha hb
theorem op_eqM {k : Nat} (hK : X.K = M.K) (hr : Room k X.A) : OpR X (compareOp .Eq) (rEqD M.K) := by rw [← hK]; exact op_eqD hr.units
theorem op_neM {k : Nat} (hK : X.K = M.K) (hr : Room k X.A) : OpR X (compareOp .NotEq) (rNeD M.K) := by rw [← hK]; exact op_neD hr.units
theorem x_eq {k : Nat} (hr : Room k X.A) (ha : DI M W X a fa) (hb : DP M W X b fb) (hK : X.K = M.K := by rfl) : DE M W X (.Compare a [.Eq] [b] pos) (fBin gEq fa fb) := d_op (fun h h' => pe_cmpR (op_eqM hK hr) h h' (nomark _)) od_eq ha hb
theorem t_eq {k : Nat} (hr : Room k X.A) (ha : DI M W X a fa) (hb : DP M W X b fb) (hK : X.K = M.K := by rfl) : DT M W X (.Compare a [.Eq] [b] pos) (fTst (fBin gEq fa fb)) := dt_op (fun h h' => pt_cmpR (op_eqM hK hr) h h' (nomark _)) od_eq ha hb
theorem t_ne {k : Nat} (hr : Room k X.A) (ha : DI M W X a fa) (hb : DP M W X b fb) (hK : X.K = M.K := by rfl) : DT M W X (.Compare a [.NotEq] [b] pos) (fTst (fBin gNe fa fb)) := dt_op (fun h h' => pt_cmpR (op_neM hK hr) h h' (nomark _)) od_ne ha hb
theorem t_neV {k : Nat} (hr : Room k X.A) (ha : PE X a (tVar i)) (hb : DP M W X b fb) (hK : X.K = M.K := by rfl) : DT M W X (.Compare a [.NotEq] [b] pos) (fTst (fBinV gNe i fb)) := dt_opV (fun h h' => pt_cmpR (op_neM hK hr) h h' (nomark _)) od_ne ha hb
theorem t_in {k : Nat} (hr : Room k X.A) (ha : DI M W X a fa) (hb : DP M W X b fb) (hm : behindInMarks .In b = false := by rfl) (hK : X.K = M.K := by rfl) : DT M W X (.Compare a [.In] [b] pos) (fTst (fBin gIn fa fb)) := dt_op (fun h h' => pt_cmpR (op_inAll hK (hu_of hr)) h h' hm) (od_in false rfl) ha hb
theorem t_notIn {k : Nat} (hr : Room k X.A) (ha : DI M W X a fa) (hb : DP M W X b fb) (hm : behindInMarks .NotIn b = false := by rfl) (hK : X.K = M.K := by rfl) : DT M W X (.Compare a [.NotIn] [b] pos) (fTst (fBin gNotIn fa fb)) := dt_op (fun h h' => pt_cmpR (op_notInAll hK (hu_of hr)) h h' hm) (od_in true rfl) ha hb
theorem x_ix {k : Nat} (hr : Room k X.A) (ha : DI M W X a fa) (hb : DP M W X b fb) (hs : PlainIx b := by intro _ _; rfl) (hK : X.K = M.K := by rfl) : DE M W X (.Subscript a b pos) (fBin gIx fa fb) := d_op (fun h h' => pe_ix (ix_all hK (hu_of hr)) h h' hs) od_ix ha hb
theorem x_ixV {k : Nat} (hr : Room k X.A) (ha : PE X a (tVar i)) (hb : DP M W X b fb) (hs : PlainIx b := by intro _ _; rfl) (hK : X.K = M.K := by rfl) : DE M W X (.Subscript a b pos) (fBinV gIx i fb) := d_opV (fun h h' => pe_ix (ix_all hK (hu_of hr)) h h' hs) od_ix ha hb
end
section
variable {M : Gm} {c : Cn M} {W : WX} {X : Cx} {e a : Expr} {es : List Expr} {pos p : Pos} {fa : FA} {x : Str}
theorem e_b {id : String} {r : RC} {g : List D → Option R} (hc : CallR X (.builtin id) r) (hd : CallD M r g) (hv : bootBuiltins x = some (.builtin id)) (hg : Gl X x) (hm : X.mg x = none) (ha : DB M W X (e :: es) fa) (hn : x ≠ "__name__" := by decide) (hdb : (x == ("__debug__" : Str)) = false := by decide)
    (he : starEach (e :: es) X.env = (false, eval e X.env) :: starEach es X.env := by rfl) (hpl : (backTo pos (starEach es X.env)).any (·.1) = false := by rfl) : DE M W X (.Call (.Name x p) (e :: es) [] pos) (fCal g fa) := d_call (fun h => pe_callB hc hg hm hv h hn hdb he hpl) hd ha
theorem e_t {T : String} {r : RC} {g : List D → Option R} (hc : CallR X (.type T) r) (hd : CallD M r g) (hv : bootBuiltins x = some (.type T)) (hg : Gl X x) (hm : X.mg x = none) (ha : DB M W X (e :: es) fa) (hn : x ≠ "__name__" := by decide) (hdb : (x == ("__debug__" : Str)) = false := by decide)
    (he : starEach (e :: es) X.env = (false, eval e X.env) :: starEach es X.env := by rfl) (hpl : (backTo pos (starEach es X.env)).any (·.1) = false := by rfl) : DE M W X (.Call (.Name x p) (e :: es) [] pos) (fCal g fa) := d_call (fun h => pe_callTy hc hg hm hv h hn hdb he hpl) hd ha
theorem bt_len : bootBuiltins "len" = some (.builtin "len") := by decide +kernel
theorem bt_abs : bootBuiltins "abs" = some (.builtin "abs") := by decide +kernel
theorem bt_max : bootBuiltins "max" = some (.builtin "max") := by decide +kernel
theorem bt_min : bootBuiltins "min" = some (.builtin "min") := by decide +kernel
theorem bt_sum : bootBuiltins "sum" = some (.builtin "sum") := by decide +kernel
theorem bt_all : bootBuiltins "all" = some (.builtin "all") := by decide +kernel
theorem bt_divmod : bootBuiltins "divmod" = some (.builtin "divmod") := by decide +kernel
theorem bt_repr : bootBuiltins "repr" = some (.builtin "repr") := by decide +kernel
theorem bt_isinstance : bootBuiltins "isinstance" = some (.builtin "isinstance") := by decide +kernel
theorem bt_int : bootBuiltins "int" = some (.type "int") := by decide +kernel
theorem bt_str : bootBuiltins "str" = some (.type "str") := by decide +kernel
theorem bt_list : bootBuiltins "list" = some (.type "list") := by decide +kernel
theorem bt_tuple : bootBuiltins "tuple" = some (.type "tuple") := by decide +kernel
theorem bt_bool : bootBuiltins "bool" = some (.type "bool") := by decide +kernel
variable (hg : Gl X x) (hm : X.mg x = none)
def gMax : List D → Option R := gcOr gMax2 gMaxL
def gMin : List D → Option R := gcOr gMin2 gMinL
theorem b_len (hg : Gl X "len") (hm : X.mg "len" = none) (ha : DB M W X [e] fa) (hK : X.K = M.K := by rfl) (he : starEach (e :: []) X.env = (false, eval e X.env) :: starEach [] X.env := by rfl) (hpl : (backTo pos (starEach [] X.env)).any (·.1) = false := by rfl) : DE M W X (.Call (.Name "len" p) [e] [] pos) (fCal gLen fa) := e_b (call_lenAll hK) cd_len bt_len hg hm ha (by decide) (by decide) he hpl
theorem b_abs (hg : Gl X "abs") (hm : X.mg "abs" = none) (ha : DB M W X [e] fa) (he : starEach (e :: []) X.env = (false, eval e X.env) :: starEach [] X.env := by rfl) (hpl : (backTo pos (starEach [] X.env)).any (·.1) = false := by rfl) : DE M W X (.Call (.Name "abs" p) [e] [] pos) (fCal gAbs fa) := e_b call_abs cd_abs bt_abs hg hm ha (by decide) (by decide) he hpl
theorem b_max (hc : X.calm = true) (hg : Gl X "max") (hm : X.mg "max" = none) (ha : DB M W X (e :: es) fa) (he : starEach (e :: es) X.env = (false, eval e X.env) :: starEach es X.env := by rfl) (hpl : (backTo pos (starEach es X.env)).any (·.1) = false := by rfl) : DE M W X (.Call (.Name "max" p) (e :: es) [] pos) (fCal gMax fa) := e_b (CallR.or (call_max2 hc) (cr_max hc)) (CallD.or cd_max2 cd_maxL) bt_max hg hm ha (by decide) (by decide) he hpl
theorem b_min (hc : X.calm = true) (hg : Gl X "min") (hm : X.mg "min" = none) (ha : DB M W X (e :: es) fa) (he : starEach (e :: es) X.env = (false, eval e X.env) :: starEach es X.env := by rfl) (hpl : (backTo pos (starEach es X.env)).any (·.1) = false := by rfl) : DE M W X (.Call (.Name "min" p) (e :: es) [] pos) (fCal gMin fa) := e_b (CallR.or (call_min2 hc) (cr_min hc)) (CallD.or cd_min2 cd_minL) bt_min hg hm ha (by decide) (by decide) he hpl
theorem b_sum (hc : X.calm = true) (hg : Gl X "sum") (hm : X.mg "sum" = none) (ha : DB M W X [e] fa) (he : starEach (e :: []) X.env = (false, eval e X.env) :: starEach [] X.env := by rfl) (hpl : (backTo pos (starEach [] X.env)).any (·.1) = false := by rfl) : DE M W X (.Call (.Name "sum" p) [e] [] pos) (fCal gSum fa) := e_b (cr_sum hc) cd_sum bt_sum hg hm ha (by decide) (by decide) he hpl
theorem b_all (hc : X.calm = true) (hg : Gl X "all") (hm : X.mg "all" = none) (ha : DB M W X [e] fa) (he : starEach (e :: []) X.env = (false, eval e X.env) :: starEach [] X.env := by rfl) (hpl : (backTo pos (starEach [] X.env)).any (·.1) = false := by rfl) : DE M W X (.Call (.Name "all" p) [e] [] pos) (fCal gAll fa) := e_b (cr_all hc) cd_all bt_all hg hm ha (by decide) (by decide) he hpl
theorem b_divmod (hg : Gl X "divmod") (hm : X.mg "divmod" = none) (ha : DB M W X (e :: es) fa) (he : starEach (e :: es) X.env = (false, eval e X.env) :: starEach es X.env := by rfl) (hpl : (backTo pos (starEach es X.env)).any (·.1) = false := by rfl) : DE M W X (.Call (.Name "divmod" p) (e :: es) [] pos) (fCal gDivmod fa) := e_b call_divmodP cd_divmod bt_divmod hg hm ha (by decide) (by decide) he hpl
theorem b_int (hg : Gl X "int") (hm : X.mg "int" = none) (ha : DB M W X [e] fa) (he : starEach (e :: []) X.env = (false, eval e X.env) :: starEach [] X.env := by rfl) (hpl : (backTo pos (starEach [] X.env)).any (·.1) = false := by rfl) : DE M W X (.Call (.Name "int" p) [e] [] pos) (fCal gInt fa) := e_t call_int1 cd_int bt_int hg hm ha (by decide) (by decide) he hpl
theorem b_list (hg : Gl X "list") (hm : X.mg "list" = none) (ha : DB M W X [e] fa) (hK : X.K = M.K := by rfl) (he : starEach (e :: []) X.env = (false, eval e X.env) :: starEach [] X.env := by rfl) (hpl : (backTo pos (starEach [] X.env)).any (·.1) = false := by rfl) : DE M W X (.Call (.Name "list" p) [e] [] pos) (fCal gList fa) := e_t call_list_of (cd_list hK) bt_list hg hm ha (by decide) (by decide) he hpl
theorem b_tuple (hg : Gl X "tuple") (hm : X.mg "tuple" = none) (ha : DB M W X [e] fa) (hK : X.K = M.K := by rfl) (he : starEach (e :: []) X.env = (false, eval e X.env) :: starEach [] X.env := by rfl) (hpl : (backTo pos (starEach [] X.env)).any (·.1) = false := by rfl) : DE M W X (.Call (.Name "tuple" p) [e] [] pos) (fCal gTuple fa) := e_t call_tuple_of (cd_tuple hK) bt_tuple hg hm ha (by decide) (by decide) he hpl
theorem k_ty {T : String} (hv : bootBuiltins x = some (.type T)) (hg : Gl X x) (hm : X.mg x = none) (hn : x ≠ "__name__" := by decide) (hdb : (x == ("__debug__" : Str)) = false := by decide) : PE X (.Name x pos) (tC (.ty T)) :=
  ⟨fun pins s σ H Q I h => ld_blt I hg hm hv ⟨.ty T, H, I, rfl, h⟩ hn hdb⟩
theorem b_isi {fe : FD} {c1 : Expr} {v : V} {u : Value} {tab : Tg → Option Bool} (hg : Gl X "isinstance") (hm : X.mg "isinstance" = none) (ha : DP M W X a fe) (hc : PE X c1 (tC v)) (hv : ClsV v u) (T : IsT M [u] tab) (hK : X.K = M.K := by rfl)
    (hs : starEach [a, c1] X.env = (false, eval a X.env) :: starEach [c1] X.env := by rfl) (hs2 : starEach [c1] X.env = (false, eval c1 X.env) :: starEach [] X.env := by rfl) (hpl : (backTo pos (starEach [c1] X.env)).any (·.1) = false := by rfl) :
    DI M W X (.Call (.Name "isinstance" p) [a, c1] [] pos) (fIsi tab fe) := di_isi hg hm ha hc hv T hK hs hs2 (fun h => pe_callB call_isi hg hm bt_isinstance h (by decide) (by decide) hs hpl)
theorem b_isiT {fe : FD} {es : List Expr} {kt : Nat} {tp : Pos} {vs : List V} {us : List Value} {ct : TA} {tab : Tg → Option Bool} (hg : Gl X "isinstance") (hm : X.mg "isinstance" = none) (ha : DP M W X a fe) (hc : PA X es ct) (hct : ∀ σ H (Q : List V → Hp → Prop), Q vs H → ct σ H Q) (hv : Paired ClsV vs us) (hl : vs.length ≤ 100) (T : IsT M us tab) (hK : X.K = M.K := by rfl)
    (hs : starEach [a, .Tuple es kt tp] X.env = (false, eval a X.env) :: starEach [.Tuple es kt tp] X.env := by rfl) (hs2 : starEach [.Tuple es kt tp] X.env = (false, eval (.Tuple es kt tp) X.env) :: starEach [] X.env := by rfl) (hpl : (backTo pos (starEach [.Tuple es kt tp] X.env)).any (·.1) = false := by rfl) :
    DI M W X (.Call (.Name "isinstance" p) [a, .Tuple es kt tp] [] pos) (fIsi tab fe) := di_isiT ha hc hct hv hl T hK hs hs2 (fun h => pe_callB call_isiT hg hm bt_isinstance h (by decide) (by decide) hs hpl)
end
section
variable {M : Gm} {c : Cn M} {W : WX} {X : Cx} {o e : Expr} {es : List Expr} {apos cpos : Pos} {fa : FA} {i : Nat}
theorem m_append (ho : PE X o (tVar i)) (ha : DA M W X (e :: es) fa) (hb : attributeBase o "append" X.env (eval o X.env) = eval o X.env := by rfl) (hfew : ((backTo cpos (starEach (e :: es) X.env)).all (fun x => !x.1) && (backToKw cpos (keywordEach [] X.env)).all (fun x => x.1.isSome) && decide ((e :: es).length + ([] : List Keyword).length + (if ([] : List Keyword).isEmpty then 0 else 1) < 30)) = true := by rfl) (hl : (apos.endLine == cpos.line) = true := by rfl)
    (he : starEach (e :: es) X.env = (false, eval e X.env) :: starEach es X.env := by rfl) (hpl : (backTo cpos (starEach es X.env)).any (·.1) = false := by rfl) : DI M W X (.Call (.Attribute o "append" apos) (e :: es) [] cpos) (fMut i mAppend fa) :=
  d_mut (o := o) (fun h => pe_bm PySem.F.plainAttrs_list PySem.F.slot_list_append PySem.F.type_list_append mt_append ho h hb hfew hl he hpl) md_append ha
theorem m_pop (ho : PE X o (tVar i)) (ha : DA M W X (e :: es) fa) (hb : attributeBase o "pop" X.env (eval o X.env) = eval o X.env := by rfl) (hfew : ((backTo cpos (starEach (e :: es) X.env)).all (fun x => !x.1) && (backToKw cpos (keywordEach [] X.env)).all (fun x => x.1.isSome) && decide ((e :: es).length + ([] : List Keyword).length + (if ([] : List Keyword).isEmpty then 0 else 1) < 30)) = true := by rfl) (hl : (apos.endLine == cpos.line) = true := by rfl)
    (he : starEach (e :: es) X.env = (false, eval e X.env) :: starEach es X.env := by rfl) (hpl : (backTo cpos (starEach es X.env)).any (·.1) = false := by rfl) : DI M W X (.Call (.Attribute o "pop" apos) (e :: es) [] cpos) (fMut i mPop fa) :=
  d_mut (o := o) (fun h => pe_bm PySem.F.plainAttrs_list PySem.F.slot_list_pop PySem.F.type_list_pop mt_popAll ho h hb hfew hl he hpl) md_pop ha
end
section
variable {M : Gm} {c : Cn M} {W : WX} {X : Cx} {e o : Expr} {f : Fm}
theorem d_meth0 {m : Str} {tab : Nat → Option Fm} {fo : FD} (mk : ∀ {ta : TE}, PE X o ta → PE X e (tMethD W (okM M tab) m ta tNil)) (hn : ∀ n f, tab n = some f → m ∉ M.nm n) (ho : DI M W X o fo) : DE M W X e (fMeth tab fo aNil) := by
  obtain ⟨ta, pa, ho⟩ := ho
  refine ⟨_, mk pa, fun c F H σ δ Q ok post => ho c F H σ δ _ ok (Post.bind post fun d δ1 v F1 H1 _ s1 ok1 r post => ?_)⟩
  split at post
  · rename_i n vs _
    split at post
    · rename_i f hf
      have r0 := r
      unfold ρD rep at r
      obtain ⟨a, C, dx, fs, rfl, h1, h2, h3, h4⟩ := r
      refine ⟨a, C, dx, fs, spD M f, rfl, ok1.same _ _ h2, ⟨n, f, hf, h1, rfl⟩, lookup_none (fun z => hn n f hf (List.mem_of_mem_take (h3 ▸ z))), ?_⟩
      exact own_of ok1 (reps_cons r0 reps_nil) post
    · exact post.elim
  · exact post.elim
def fOwnK0 (f : Fm) (m : Nat) (fk : FA) : FE := fun δ => (fk δ).bind fun es δ2 => if es.length = m then outE (f none es) δ2 else .bad
theorem reps_ints {M : Gm} {F : Hp} : ∀ (ns : List Int), reps M F (ns.map D.int) (ns.map V.int)
  | [] => reps_nil
  | n :: ns => reps_cons (rep_int' _) (reps_ints ns)
end
def kitAnyB (t : String) : List String → Option Bool
  | [] => some false
  | u :: us => match kitB t u with
    | some true => some true
    | some false => kitAnyB t us
    | none => none
def tabTy (us : List String) (own : Nat → Option Bool) : Tg → Option Bool
  | .inl t => kitAnyB t us
  | .inr n => own n
theorem kitAnyB_ok {K : PySem.W.Frag} {t : String} : ∀ {us : List String} {b : Bool}, kitAnyB t us = some b → PySem.W.kitAny K (.type t) (us.map Value.type) = some b
  | [], b, h => h
  | u :: us, b, h => by
    unfold kitAnyB at h
    split at h
    · rename_i e
      cases h
      exact kitAny_cons (kit_ty e) (fun z => by cases z) (fun _ => rfl)
    · rename_i e
      exact kitAny_cons (kit_ty e) (fun _ => kitAnyB_ok h) (fun z => by cases z)
    · cases h
theorem isT_ty {M : Gm} {us : List String} {own : Nat → Option Bool} (h : ∀ n b C, own n = some b → M.G n = some C → PySem.W.kitAny M.K (.ref C) (us.map Value.type) = some b ∧ InsTy M.K C) : IsT M (us.map Value.type) (tabTy us own) := by
  intro t b tv h1 h2
  cases t with
  | inl t =>
    obtain rfl : tv = .type t := h2
    exact ⟨kitAnyB_ok h1, fun n C z => by cases z⟩
  | inr n =>
    obtain ⟨C, e1, rfl⟩ := h2
    refine ⟨(h n b C h1 e1).1, fun n' C' z e2 => ?_⟩
    cases z
    rw [e1] at e2; cases e2
    exact (h n b C h1 e1).2
theorem isT_own0 {M : Gm} {us : List String} : IsT M (us.map Value.type) (tabTy us fun _ => none) := isT_ty fun n b C z => by cases z
def muI (i : Nat) : Sl → Nat := fun δ => match δ[i]? with
  | some (some (.imm (.int n))) => n.natAbs + 2
  | _ => 0
def muN (i : Nat) : Sl → Nat := fun δ => match δ[i]? with
  | some (some (.imm (.lst ds))) => ds.length + 2
  | some (some (.own (.l ds))) => ds.length + 2
  | _ => 0
def muL (i : Nat) : Sl → Nat := fun δ => match δ[i]? with
  | some (some (.own (.l ds))) => ds.length + 2
  | _ => 0
end
end TS

namespace TS
open PySem L2
noncomputable section
def shOk (p : PyData) : Bool := gd (p.showable = true ∧ p.hasDict = false ∧ p.depth ≤ 32 ∧ p.shown.length ≤ sizeLine)
def gRepr : List D → Option R
  | [d] => (match toP d with
    | some p => if shOk p then some (.imm (.str p.shown)) else none
    | none => none)
  | _ => none
def gStr : List D → Option R
  | [.str x] => some (.imm (.str x))
  | [d] => gRepr [d]
  | _ => none
def rRepr (K : PySem.W.Frag) : RC := fun xs H Q => ∃ x p, xs = [x] ∧ Dp K H x p ∧ shOk p = true ∧ Q (.str p.shown) H
section
variable {X : Cx} {M : Gm} {W : WX} {e : Expr} {es : List Expr} {fa : FA} {p pos : Pos}
def rStr (K : PySem.W.Frag) : RC := fun xs H Q => (∃ y, xs = [.str y] ∧ Q (.str y) H) ∨ rRepr K xs H Q ∧ ∀ y, xs ≠ [.str y]
theorem call_strD {k : Nat} (hr : Room k X.A) : CallR X (.type "str") (rStr X.K) := by
  rintro pins s σ H xs us Q I r (⟨y, rfl, q⟩ | ⟨⟨x, p, rfl, hd, hs, q⟩, hne⟩)
  · exact SkE.call_str_str pins s σ H _ us Q I r ⟨y, rfl, q⟩
  obtain ⟨u, rfl, ru⟩ := vals1 r
  obtain ⟨h1, h2, h3, h4⟩ := of_gd hs
  obtain ⟨as, rd⟩ := Dp.reads I p x u hd ru
  have hu := hr.units
  cases hd with
  | non => cases ru; exact PySem.P.str_of_none ⟨.str _, H, I.tok _, ⟨_, rfl⟩, q⟩
  | bl b => cases ru; exact PySem.P.str_of_bool ⟨.str _, H, I.tok _, ⟨_, rfl⟩, q⟩
  | int i => obtain ⟨t, rfl⟩ := ru; exact PySem.P.str_of_int (of_decide_eq_true h1) ⟨.str _, H, I.tok _, ⟨_, rfl⟩, q⟩
  | str y => exact absurd rfl (hne y)
  | lst h h' =>
    cases ru
    exact str_of_reads rd h1 (PyData.noDict_hsm h2) hr.gu (by omega) (fun _ _ e => e) (fun h' u tk kp => ⟨.str _, H, I.kept kp, ⟨_, rfl⟩, q⟩) h4
  | tup h h' =>
    cases ru
    exact str_of_reads rd h1 (PyData.noDict_hsm h2) hr.gu (by omega) (fun _ _ e => e) (fun h' u tk kp => ⟨.str _, H, I.kept kp, ⟨_, rfl⟩, q⟩) h4
theorem cd_repr : CallD M (rRepr M.K) gRepr := by
  intro c F H σ δ xs ds z Q ok pxs e q
  unfold gRepr at e
  split at e
  · split at e
    · rename_i d p hp
      split at e
      · rename_i hs
        cases e
        obtain ⟨x, rfl, px⟩ := p1 pxs
        exact ⟨x, p, rfl, prep_dp ok.same px hp, hs, q _ F H (Same.refl _) ok rr_str⟩
      · cases e
    · cases e
  · cases e
theorem cd_str : CallD M (rStr M.K) gStr := by
  intro c F H σ δ xs ds z Q ok pxs e q
  unfold gStr at e
  split at e
  · rename_i y
    cases e
    obtain ⟨x, rfl, px⟩ := p1 pxs
    have : x = .str y := by
      rcases px with h | ⟨o, a, rfl, h, _⟩
      · unfold rep at h; exact h
      · cases o <;> cases h
    subst this
    exact .inl ⟨y, rfl, q _ F H (Same.refl _) ok rr_str⟩
  · rename_i d hd
    refine .inr ⟨cd_repr c F H σ δ xs [d] z Q ok pxs e q, fun y e2 => ?_⟩
    subst e2
    obtain ⟨x, e3, px⟩ := p1 pxs
    cases e3
    rcases px with h | ⟨o, a, h, _⟩
    · cases d <;> unfold rep at h
      case str z => cases h; exact hd _ rfl
      case lst ds => obtain ⟨_, _, h, _⟩ := h; cases h
      case scr ds => obtain ⟨_, _, h, _⟩ := h; cases h
      case tup ds => obtain ⟨_, _, h, _⟩ := h; cases h
      case ktp ns => obtain ⟨_, h, _⟩ := h; cases h
      case dK ds => obtain ⟨_, _, _, h, _⟩ := h; cases h
      case dT ds => obtain ⟨_, _, _, h, _⟩ := h; cases h
      case obj ds => obtain ⟨_, _, _, _, h, _⟩ := h; cases h
      case cls ds => obtain ⟨_, _, h⟩ := h; cases h
      case lam => obtain ⟨_, h⟩ := M.lm.rf h; cases h
      all_goals cases h
    · cases h
  · cases e
theorem b_strD {k : Nat} (hr : Room k X.A) (hg : Gl X "str") (hm : X.mg "str" = none) (ha : DB M W X [e] fa) (hK : X.K = M.K := by rfl) (he : starEach (e :: []) X.env = (false, eval e X.env) :: starEach [] X.env := by rfl) (hpl : (backTo pos (starEach [] X.env)).any (·.1) = false := by rfl) : DE M W X (.Call (.Name "str" p) [e] [] pos) (fCal gStr fa) := e_t (hK ▸ call_strD hr) cd_str bt_str hg hm ha (by decide) (by decide) he hpl
end
end
end TS

namespace TS
open PySem L2
noncomputable section
def tLst (n : Nat) (hs : List D → Sl → SR) : R → Sl → SR := fun r δ => match r with
  | .imm (.lst ds) => if ds.length = n then hs ds δ else .bad
  | .own (.l ds) => if ds.length = n then hs ds δ else .bad
  | _ => .bad
section
variable {M : Gm} {W : WX} {X : Cx}
end
section
variable {X : Cx} {W : WX} {k n : Nat} {ks : List Str} {m : Str} {o e : Expr} {es : List Expr} {kws : List Keyword} {ta : TE} {t tkw : TA} {pos apos : Pos}
structure MethOkK (X : Cx) (k : Nat) (m : Str) (n : Nat) (ks : List Str) (ok : Addr → Sp → Prop) : Prop where
  at_ : ∀ C sp, ok C sp → ∃ g, Cls X.K C ∧ Meth X.K C m g ∧ FnK X.prog X.w X.K X.mg X.base (CXX X) k g n ks sp
def tMethK (W : WX) (ok : Addr → Sp → Prop) (m : Str) (n l : Nat) (ta : TE) (t tk : TA) : TE := fun σ H Q => ta σ H fun x H1 => ∃ a C dx fs sp, x = .ref a ∧ H1 a = some (.ins C dx fs) ∧ ok C sp ∧ fs.lookup m = none ∧ t σ H1 fun vs H2 => tk σ H2 fun zs H3 => vs.length = n ∧ zs.length = l ∧ sp (x :: (vs ++ zs)) H3 Q (WE W σ)
theorem pe_methK0 {ok : Addr → Sp → Prop} {pl : Sem Bool} (he : PE X o ta) (T : MethOkK X k m 1 ks ok) (hr : Room k X.A) (tk : Takes X W) (hkw : PK X kws tkw)
    (hall : (backToKw pos (keywordEach kws X.env)).all (·.1.isSome) = true := by rfl) (hks : (backToKw pos (keywordEach kws X.env)).filterMap (·.1) = ks := by rfl)
    (hpl : ((backTo pos (starEach [] X.env)).any (·.1) || (backToKw pos (keywordEach kws X.env)).any (·.1.isNone)) = false := by rfl)
    (ht : eval (.Call (.Attribute o m apos) [] kws pos) X.env = (do
      let ov ← eval o X.env
      standAt apos.atName
      let (f, first) ← holding [ov] (getMethod ov m pl)
      callWith pos f first (backTo pos (starEach [] X.env)) (backToKw pos (keywordEach kws X.env))) := by rfl) :
    PE X (.Call (.Attribute o m apos) [] kws pos) (tMethK W ok m 0 ks.length ta tNil tkw) := by
  refine ⟨fun pins s σ H Q I h => ?_⟩
  refine PySem.W.methodCall_KW (pl := pl) (thn (he.run pins s σ H _ I h) fun u s1 ⟨x, H1, I1, rx, a, C, dx, fs, sp, ex, ea, hok, l, q⟩ => ?_) ht
  obtain ⟨g, c, hm, F⟩ := T.at_ C sp hok
  subst ex
  obtain rfl : u = Value.ref a := rx
  refine getmeth_ok I1 ea c hm l ?_
  refine PySem.W.callWith_KW0 (first := [.ref a]) (h₀ := X.base) I.ok.mod.kin hm.kp hall (thn (hkw.run pos pins s1 σ H1 _ I1 q) fun ws s3 ⟨zs, H3, I3, rz, l1, l2, q3⟩ => ⟨I3.kIn, ?_⟩) hpl
  rw [hks]
  exact run_fnK (us := [.ref a]) (vs := [.ref a]) F hr tk I3 rfl l2 (.cons rfl .nil) rz q3
end
section
variable {M : Gm} {W : WX} {X : Cx} {e o : Expr} {es : List Expr} {kws : List Keyword} {fa fk : FA} {n l : Nat}
def fMethK (tab : Nat → Option Fm) (n l : Nat) (fo : FD) (fa fk : FA) : FE := fun δ => (fo δ).bind fun d δ1 => match d with
  | .obj c vs => (match tab c with
    | some f => (fa δ1).bind fun ds δ2 => (fk δ2).bind fun es δ3 => if ds.length = n ∧ es.length = l then outE (f none (.obj c vs :: (ds ++ es))) δ3 else .bad
    | none => .bad)
  | _ => .bad
theorem d_methK0 {m : Str} {tab : Nat → Option Fm} {fo : FD} (mk : ∀ {ta : TE} {tk : TA}, PE X o ta → PK X kws tk → PE X e (tMethK W (okM M tab) m 0 l ta tNil tk)) (hn : ∀ n f, tab n = some f → m ∉ M.nm n) (ho : DI M W X o fo) (hk : DKw M W X kws fk) : DE M W X e (fMethK tab 0 l fo aNil fk) := by
  obtain ⟨ta, pa, ho⟩ := ho
  obtain ⟨t', p', h'⟩ := hk
  refine ⟨_, mk pa p', fun c F H σ δ Q ok post => ho c F H σ δ _ ok (Post.bind post fun d δ1 v F1 H1 _ s1 ok1 r post => ?_)⟩
  split at post
  · rename_i c0 vs _
    split at post
    · rename_i f hf
      have r0 := r
      unfold ρD rep at r
      obtain ⟨a, C, dx, fs, rfl, h1, h2, h3, h4⟩ := r
      refine ⟨a, C, dx, fs, spD M f, rfl, ok1.same _ _ h2, ⟨c0, f, hf, h1, rfl⟩, lookup_none (fun z => hn c0 f hf (List.mem_of_mem_take (h3 ▸ z))), h' c F1 H1 σ δ1 _ ok1 (Post.bind post fun es δ3 zs F3 H3 _ s3 ok3 rz post => ?_)⟩
      split at post
      · rename_i hl
        exact ⟨rfl, by rw [reps_length rz]; exact hl.2, own_of ok3 (reps_cons (rep_mono s3 _ _ r0) rz) post⟩
      · exact post.elim
    · exact post.elim
  · exact post.elim
theorem methOkK_of {k : Nat} {m : Str} {ks : List Str} {tab : Nat → Option Fm} {M : Gm} (h : ∀ n0 f, tab n0 = some f → ∃ C g, M.G n0 = some C ∧ Cls X.K C ∧ Meth X.K C m g ∧ FnK X.prog X.w X.K X.mg X.base (CXX X) k g n ks (spD M f)) : MethOkK X k m n ks (okM M tab) := ⟨fun C sp ⟨n0, f, h1, h2, h3⟩ => by
  obtain ⟨C', g, k1, k2, k3, k4⟩ := h n0 f h1
  rw [h2] at k1; cases k1
  subst h3
  exact ⟨g, k2, k3, k4⟩⟩
end
end
end TS

namespace TS
open PySem L2
noncomputable section
section
variable {X : Cx} {W : WX} {k : Nat} {a b : Expr} {ta tb : TE} {pos : Pos}
end
def outO (r : FR) (δ : Sl) : Res R := match r with
  | .ok (.own o) _ => .ok (.own o) δ
  | .exc x _ => .exc x δ
  | _ => .bad
def fBinO (tab : Nat → Option Fm) (fa fb : FD) : FE := fun δ => (fa δ).bind fun x δ1 => (fb δ1).bind fun y δ2 => match x, y with
  | .obj n vs, .obj m ws => if n = m then (match tab n with
    | some f => outO (f none [.obj n vs, .obj m ws]) δ2
    | none => .bad) else .bad
  | _, _ => .bad
section
variable {M : Gm} {W : WX} {X : Cx} {a b e : Expr} {fa fb : FD}
end
def sPar3 (i j l : Nat) (fa : FA) : FS := fun δ => (fa δ).bindS fun ds δ1 => match ds with
  | [a, b, c] => .nx (((δ1.set i (some (.imm a))).set j (some (.imm b))).set l (some (.imm c)))
  | _ => .bad
section
variable {M : Gm} {W : WX} {X : Cx} {fa : FA}
end
end
end TS

namespace TS
open PySem L2
noncomputable section
def flatR : R → Bool
  | .imm .non => true
  | .imm (.bl _) => true
  | .imm (.int _) => true
  | .imm (.str _) => true
  | _ => false
def outP (r : FR) (δ : Sl) : Res R := match r with
  | .ok r _ => if flatR r then .ok r δ else .bad
  | _ => .bad
def fOwnP (f : Fm) (fa : FA) : FE := fun δ => (fa δ).bind fun ds δ1 => if ds.any D.dic then .bad else outP (f none ds) δ1
section
variable {M : Gm} {c : Cn M} {F H : Hp} {σ : St} {δ : Sl}
end
section
variable {M : Gm} {W : WX} {X : Cx} {e : Expr} {es : List Expr} {fa : FA} {f : Fm}
end
end
end TS

namespace TS
open PySem L2
noncomputable section
section
variable {M : Gm} {W : WX} {X : Cx} {e : Expr} {es : List Expr} {fa : FA} {p pos : Pos}
end
def pick {α : Type} (n : Nat) (ix : List Nat) (d : α) (us ws : List α) : List α := us ++ ix.map fun j => ws.getD j d
section
variable {M : Gm} {F H : Hp}
end
section
variable {M : Gm} {P : Program} {w : World} {mg : Str → Option Value} {base : Heap} {k n : Nat} {ks ps : List Str} {f : Addr} {fm : Fm} {fd : FuncData} {ix : List Nat}
end
end
end TS

namespace TS
open PySem PySem.Spec L2
noncomputable section
section
variable {X : Cx} {tg : Expr}
end
section
variable {M : Gm} {W : WX} {X : Cx} {tg e : Expr}
end
end
end TS

namespace TS
open PySem L2 PyProof.Rows
open AutoSeq1 (wpAny_loadPart')
noncomputable section
theorem enumT_new (tu : Addr) (its : Array Value) (cn : Nat) (dd : Option Addr) (ss : Array (Option Value)) :
    Meets (Builtin.«enumerate.__new__» ⟨[.type "enumerate", .ref tu], []⟩) (fun _ Rr sh => sh.heap.get? tu = some { cls := .type "tuple", dict := dd, data := .seq its cn, slots := ss } ∧
      Rr (.ok (.ret (.ref (sh.heap.push { cls := .type "tuple_iterator", data := .fields #[.ref tu, .int 0 0] }).objs.size)))
        { sh with heap := (sh.heap.push { cls := .type "tuple_iterator", data := .fields #[.ref tu, .int 0 0] }).push { cls := .type "enumerate", data := .fields #[.none, .bool false, .ref sh.heap.objs.size, rawInt 0, .none, .none] } }) :=
  .of_wp fun prog w A Rr sh z => by
    obtain ⟨hp, g, d, tk, os⟩ := sh
    obtain ⟨hl, z⟩ := z
    have sub := sub_enumerate
    have hL : Heap.IsTuple (Shared.heap ⟨hp, g, d, tk, os⟩) tu its := ⟨_, hl, rfl, _, rfl⟩
    wp_walk using wpAny_loadPart' hl
    refine wpAny_stack_any fun st => wpAny_pure ?_
    split
    · rename_i c _ _ _ _ _
      cases (c == Value.type "enumerate") <;> (wp_walk using wpAny_loadPart' hl, wpAny_pyIter_tuple hL; exact ⟨_, rfl, z⟩)
    · wp_walk using wpAny_loadPart' hl, wpAny_pyIter_tuple hL
      exact ⟨_, rfl, z⟩
theorem call_enumT {P : Program} {w : World} {A : Around} {Ex : Value → Shared → Prop} {sh : Shared} {tu : Addr} {its : Array Value} {Q : Value → Shared → Prop} (hL : sh.heap.IsTuple tu its)
    (z : ∀ h2, IsEnum h2 (sh.heap.objs.size + 1) sh.heap.objs.size 0 .none → h2.IsTupleIter sh.heap.objs.size tu 0 → h2.objs.size = sh.heap.objs.size + 2 →
      (∀ b o, sh.heap.get? b = some o → h2.get? b = some o) → Q (.ref (sh.heap.objs.size + 1)) { sh with heap := h2 }) :
    wpAny (model P w) A (call (.type "enumerate") [.ref tu]) Q Ex sh := by
  obtain ⟨⟨cc, dd, dt, ss⟩, hl, hc, n, hd⟩ := hL
  replace hc : cc = .type "tuple" := hc
  replace hd : dt = .seq its n := hd
  subst hc hd
  refine callType_new F.called_enumerate (by decide) (F.typeCall_enumerate_1 _) (F.newCall_enumerate_1 _) (fun ob => F.args_object_init_2 ob _) F.entry_enumerate_new (enumT_new tu its n dd ss) ⟨hl, ?_⟩
  have hz : (sh.heap.push { cls := .type "tuple_iterator", data := .fields #[.ref tu, .int 0 0] }).objs.size = sh.heap.objs.size + 1 := Heap.size_push ..
  show _ ∧ _
  rw [hz]
  have he : IsEnum ((sh.heap.push { cls := .type "tuple_iterator", data := .fields #[.ref tu, .int 0 0] }).push
      { cls := .type "enumerate", data := .fields #[.none, .bool false, .ref sh.heap.objs.size, rawInt 0, .none, .none] }) (sh.heap.objs.size + 1) sh.heap.objs.size 0 .none := by
    have q := Heap.get?_push_size (sh.heap.push { cls := .type "tuple_iterator", data := .fields #[.ref tu, .int 0 0] })
      (o := { cls := .type "enumerate", data := .fields #[.none, .bool false, .ref sh.heap.objs.size, rawInt 0, .none, .none] }) rfl
    rw [hz] at q
    exact q
  exact ⟨⟨_, he, rfl⟩, z _ he ⟨_, Heap.get?_push_of_some _ (Heap.get?_push_size _ rfl), rfl, rfl⟩ (by rw [Heap.size_push, hz]) fun b o q => Heap.get?_push_of_some _ (Heap.get?_push_of_some _ q)⟩
def IteT (K : PySem.W.Frag) (a : Addr) : It :=
  ⟨fun i H => ∃ (xs : List V) (x : V), SqT K H a xs ∧ xs[i]? = some x, fun i H v H' => ∃ T x, v = .ref T ∧ H T = none ∧ H' = upd H T (.tup [.int (i : Nat), x]) ∧ ∀ xs, SqT K H a xs → xs[i]? = some x, fun i H => ∃ xs : List V, SqT K H a xs ∧ xs.length ≤ i⟩
theorem turn_enumT {P : Program} {w : World} {K : PySem.W.Frag} {elts : List Expr} {kk : Nat} {tpos : Pos} (a e it : Addr) :
    Turn P w K (.Tuple elts kk tpos) (IteT K a) [e, it] e (fun i h => (∃ old, IsEnum h e it ((i : Nat) : Int) old) ∧ h.IsTupleIter it a i ∧ e ≠ it) where
  mem := by simp
  obj := fun i h st b hb => by
    obtain ⟨⟨old, he⟩, ⟨o, ho, hc, hd⟩, _⟩ := st
    rcases (show b = e ∨ b = it by simpa using hb) with z | z
    · subst z; exact ⟨_, he, fun v q => nomatch q⟩
    · subst z; exact ⟨o, ho, fun v q => by rw [hd] at q; cases q⟩
  keep := fun i h h' st k => let ⟨⟨old, he⟩, hi, hn⟩ := st; ⟨⟨old, k e (by simp) _ he⟩, hi.at (fun o q => k it (by simp) o q), hn⟩
  item := by
    intro X hP hw hK hc i pins s σ H E I hf st hg
    subst hP hw hK
    obtain ⟨⟨old, he⟩, hit, hn⟩ := st
    obtain ⟨xs, x, hq, hx⟩ := hg
    obtain ⟨its, rv, p, hz⟩ := I.tuple hq
    have p' : s.heap.IsTuple a its.toArray := p
    have ae : a ≠ e := fun z => by
      obtain ⟨o, ho, hcl, _⟩ := p'
      rw [z] at ho
      have he' := Option.some.inj (he.symm.trans ho)
      rw [← he'] at hcl
      exact (show ¬ (Value.type "enumerate" = Value.type "tuple") by decide) hcl
    have ai : a ≠ it := fun z => by
      obtain ⟨o, ho, hcl, _⟩ := p'
      obtain ⟨o2, ho2, hcl2, _⟩ := hit
      rw [z, ho2] at ho
      cases ho
      rw [hcl2] at hcl
      exact absurd hcl (by decide)
    have hil : i < its.toArray.size := by
      have := rv.length
      have := (List.getElem?_eq_some_iff.mp hx).1
      simp; omega
    have hel : e < s.heap.objs.size := Heap.lt_size he
    have hitl : it < s.heap.objs.size := by obtain ⟨_, q, _⟩ := hit; exact Heap.lt_size q
    refine wpAny_pyNext_enum_itemD (Draws.tuple (show X.A.in1.handled = none from I.ok.hd hc) it a ai its.toArray) he ⟨hit, p'⟩ hil hn (by simp [hn, Ne.symm ae]) fun u h2 tk hu ho st2 hT hsz hk => ?_
    obtain ⟨hit2, hp2⟩ := st2
    obtain ⟨u', hu', ru⟩ := rv.get hx
    have eu : u' = u := by
      have : its.toArray[i]? = some u' := by simpa using hu'
      rw [this] at hu
      exact Option.some.inj hu
    subst eu
    refine ⟨_, rfl, wpAny_letOwnedTupleGo_enum (s := { s with heap := h2, toks := tk + 1 }) ho fun h3 he3 sb => ?_⟩
    have hT3 : h3.get? s.heap.objs.size = some { cls := .type "tuple", data := .seq #[.int i tk, u'] } := (sb.2 _ (Nat.ne_of_gt hel)).trans hT
    have nw : ObjOk X.prog X.w (upd H s.heap.objs.size (.tup [.int (i : Nat), x])) h3 s.heap.objs.size (.tup [.int (i : Nat), x]) :=
      ⟨by show 2 ≤ sizeLine; decide, [.int i tk, u'], .cons ⟨_, rfl⟩ (.cons ru .nil), ⟨_, hT3, rfl, _, rfl⟩⟩
    have I2 : Inv X pins σ (upd H s.heap.objs.size (.tup [.int (i : Nat), x])) { s with heap := h3, toks := tk + 1 } :=
      I.turnedNew (ch := [e, it]) (fun b ob hb q => (sb.2 b (fun z => hb (by simp [z]))).trans (hk b ob (fun z => hb (by simp [z])) (fun z => hb (by simp [z])) q)) hf (Nat.le_refl _) nw
    refine ⟨.ref s.heap.objs.size, _, I2, rfl, ⟨_, x, rfl, I.hok.fresh (Nat.le_refl _), rfl, fun ys hy => by rw [I.tuple_inj hy hq]; exact hx⟩, ⟨⟨u', ?_⟩, hit2.at fun o q => (sb.2 it (Ne.symm hn)).trans q, hn⟩, fun b hb => ?_⟩
    · rw [show ((i + 1 : Nat) : Int) = (i : Int) + 1 by omega]; exact he3
    · have hb' : b < s.heap.objs.size := by
        rcases (show b = e ∨ b = it by simpa using hb) with z | z
        · rw [z]; exact hel
        · rw [z]; exact hitl
      rw [upd_ne (Nat.ne_of_lt hb')]
      exact (hf b hb).1
  done := by
    intro X hP hw hK hc i pins s σ H E I hf st hg
    subst hP hw hK
    obtain ⟨⟨old, he⟩, hit, hn⟩ := st
    obtain ⟨xs, hq, hx⟩ := hg
    obtain ⟨its, rv, p, hz⟩ := I.tuple hq
    have p' : s.heap.IsTuple a its.toArray := p
    obtain ⟨f0, f1, f2, f3, f4, f5⟩ := hf it (by simp)
    have hl := rv.length
    have hne : its.toArray[i]? = none := by simp; omega
    have D : Draws X.prog X.w X.A.in1 it [it, a] i (fun _ _ => True) (fun j h => j = i ∧ h.IsTupleIter it a i ∧ h.IsTuple a its.toArray) :=
      ⟨fun _ _ st => let ⟨_, ⟨o, ho, _⟩, _⟩ := st; ⟨o, ho⟩, fun _ _ _ st hk => ⟨st.1, st.2.1.at fun o q => hk it (by simp) o q, st.2.2.at fun o q => hk a (by simp) o q⟩, fun j _ _ _ hj st _ => absurd st.1 (Nat.ne_of_lt hj),
        fun _ _ _ st hE => wpAny_nextOf_tuple_end (show X.A.in1.handled = none from I.ok.hd hc) st.2.1 st.2.2 hne hE⟩
    exact wpAny_pyNext_enum_endD D he ⟨rfl, hit, p'⟩ fun h2 eb => ⟨rfl, I.turned (t' := s.toks) (fun b o hb q => eb b o hb q) f0 f1 f3 f4 f5⟩
  self := fun A i s Q E st h => let ⟨⟨_, he⟩, _⟩ := st; wpAny_pyIter_enum he h
def iEnumLT (K : PySem.W.Frag) (ta : TA) : TI := fun σ H Rr => ta σ H fun vs H1 => (∃ a xs, vs = [.ref a] ∧ SqL K H1 a xs ∧ Rr (Ite K a) H1) ∨ (∃ a xs, vs = [.ref a] ∧ SqT K H1 a xs ∧ Rr (IteT K a) H1)
theorem pi_enumLT {X : Cx} {e : Expr} {ta : TA} {p pos tpos : Pos} {elts : List Expr} {kk : Nat} (hg : Gl X "enumerate") (hm : X.mg "enumerate" = none) (ha : PA X [e] ta) (hs : starEach [e] X.env = [(false, eval e X.env)] := by rfl) :
    PI X (.Tuple elts kk tpos) (.Call (.Name "enumerate" p) [e] [] pos) (iEnumLT X.K ta) := by
  refine ⟨fun pins s σ H Rr I h => ?_⟩
  refine Call_ (ld_blt I hg hm boot_enumerate (PyProof.Rows.callWith_type1 (thn (ha.run pos pins s σ H _ I h) fun us s1 ⟨vs, H1, I1, r1, q1⟩ => ?_) hs rfl))
  rcases q1 with ⟨a, xs, ex, hq, q⟩ | ⟨a, xs, ex, hq, q⟩ <;> subst ex <;> obtain _ | ⟨r, rr⟩ := r1 <;> cases rr <;> cases r
  · obtain ⟨its, rv, p', hz⟩ := I1.list hq
    refine call_enumerate_list p'.isList fun h' he hit hsz hk => wpAny_pyIter_enum he ?_
    have I2 : Inv X pins σ H1 { s1 with heap := h' } := I1.kept (t' := s1.toks) hk
    refine ⟨s1.heap.objs.size + 1, [s1.heap.objs.size + 1, s1.heap.objs.size], _, _, H1, rfl, I2, turn_enum a (s1.heap.objs.size + 1) s1.heap.objs.size, ⟨⟨.none, he⟩, hit, Nat.succ_ne_self _⟩, fun b hb => ?_, q⟩
    have hle : s1.heap.objs.size ≤ b := by
      rcases (show b = s1.heap.objs.size + 1 ∨ b = s1.heap.objs.size by simpa using hb) with z | z
      · rw [z]; exact Nat.le_add_right _ _
      · rw [z]; exact Nat.le_refl _
    exact I1.fpOk hle (I1.hok.fresh hle)
  · obtain ⟨its, rv, p', hz⟩ := I1.tuple hq
    refine call_enumT (show s1.heap.IsTuple a its.toArray from p') fun h' he hit hsz hk => wpAny_pyIter_enum he ?_
    have I2 : Inv X pins σ H1 { s1 with heap := h' } := I1.kept (t' := s1.toks) hk
    refine ⟨s1.heap.objs.size + 1, [s1.heap.objs.size + 1, s1.heap.objs.size], _, _, H1, rfl, I2, turn_enumT a (s1.heap.objs.size + 1) s1.heap.objs.size, ⟨⟨.none, he⟩, hit, Nat.succ_ne_self _⟩, fun b hb => ?_, q⟩
    have hle : s1.heap.objs.size ≤ b := by
      rcases (show b = s1.heap.objs.size + 1 ∨ b = s1.heap.objs.size by simpa using hb) with z | z
      · rw [z]; exact Nat.le_add_right _ _
      · rw [z]; exact Nat.le_refl _
    exact I1.fpOk hle (I1.hok.fresh hle)
section
variable {M : Gm} {c : Cn M} {W : WX} {X : Cx} {tg e : Expr} {F F1 H H1 : Hp} {σ : L2.St} {δ : Sl}
theorem walks_enumT {a : Addr} {vs : List V} {ds : List D} (hK : X.K = M.K) (hF : SqT M.K F a vs) (r : reps M F ds vs) : Walks M (IteT X.K a) F (enumD 0 ds) := fun i H s => by
  have hq : SqT X.K H a vs := by rw [hK]; exact Same.seqT s hF
  rw [enumD_get]
  refine ⟨fun d hd => ?_, fun hn => ⟨vs, hq, ?_⟩⟩
  · obtain ⟨d0, hd0, rfl⟩ := Option.map_eq_some_iff.mp hd
    obtain ⟨v, e1, e2⟩ := reps_get r hd0
    refine ⟨⟨vs, v, hq, e1⟩, fun x H' y => ?_⟩
    obtain ⟨T, x0, k1, k2, k3, k4⟩ := y
    have := k4 vs hq
    rw [e1] at this; cases this
    exact Yl.new s k2 k1 k3 rfl (reps_cons (by rw [Nat.zero_add]; exact rep_int' _) (reps_cons e2 reps_nil))
  · rw [reps_length r]
    exact List.getElem?_eq_none_iff.mp (by simpa using hn)
def itEnumLT (f : FD) : FA := fun δ => (f δ).bind fun d δ => match d with
  | .lst ds => .ok (enumD 0 ds) δ
  | .tup ds => .ok (enumD 0 ds) δ
  | _ => .bad
theorem dit_enumLT {a : Expr} {f : FD} {p pos tpos : Pos} {elts : List Expr} {kk : Nat} (hg : Gl X "enumerate") (hm : X.mg "enumerate" = none) (h : DI M W X a f) (hK : X.K = M.K := by rfl) (hs : starEach [a] X.env = [(false, eval a X.env)] := by rfl) (hs2 : starEach (a :: []) X.env = (false, eval a X.env) :: starEach [] X.env := by rfl) :
    DIt M W X (.Tuple elts kk tpos) (.Call (.Name "enumerate" p) [a] [] pos) (itEnumLT f) := by
  obtain ⟨t, pp, h⟩ := h
  refine ⟨_, pi_enumLT hg hm (pa_cons pp pa_nil hs2) hs, fun c F H σ δ Q ok post => h c F H σ δ _ ok (Post.bind post fun d δ1 v F1 H1 _ s1 ok1 r post => ?_)⟩
  split at post
  · unfold ρD rep at r
    obtain ⟨a, vs, rfl, h2, h3⟩ := r
    exact .inl ⟨a, vs, rfl, SqL.of (ok1.same _ _ h2), post.ok ok1 (walks_enum hK h2 h3)⟩
  · unfold ρD rep at r
    obtain ⟨a, vs, rfl, h2, h3⟩ := r
    exact .inr ⟨a, vs, rfl, by rw [hK]; exact SqT.of (ok1.same _ _ h2), post.ok ok1 (walks_enumT hK (SqT.of h2) h3)⟩
  · exact post.elim
end
end
end TS

namespace TS
open PySem L2 PySem.W PySem.Calls PyProof.Rows
noncomputable section
inductive Bas : String → Prop
  | ve : Bas "ValueError"
  | ar : Bas "ArithmeticError"
  | lk : Bas "LookupError"
theorem Bas.base {B : String} (b : Bas B) : ExcBaseFacts B (B ++ ".__new__") (B ++ ".__init__") (bmOf B) := by
  cases b
  · exact F.excBase_ValueError
  · exact F.excBase_ArithmeticError
  · exact F.excBase_LookupError
section
open Builtin Builtin.ObjectAttr
variable {prog : Program} {w : World} {A : Around} {R : Result → Shared → Prop} {hp : Heap} {g : Array GenState} {d : Drawn} {t : Nat} {os : OsState} {K : PySem.W.Frag} {name : Str} {tk : Tok} {v : Value} {x C dx : Addr} {fv : Array Value}
end
section
variable {X : Cx} {pins : List (Addr × Obj)} {σ : L2.St} {H : Hp} {s : Shared} {a C dx : Addr} {f : Str} {y : V} {u : Value} {fs : List (Str × V)} {Q : Unit → Shared → Prop} {E : Value → Shared → Prop} {A : Around}
end
section
variable {X : Cx} {o e : Expr} {es : List Expr} {to te : TE} {ta : TA} {f : Str} {p p' p1 p2 pos : Pos}
end
section
variable {X : Cx} {C : Addr} {ns : List Str} {ss : List Stmt} {j : Nat} {f : Str} {p p' p1 pos : Pos}
end
section
variable {M : Gm} {c : Cn M} {W : WX} {X : Cx} {F H : Hp} {σ : L2.St} {δ : Sl}
def sRaise (n k : Nat) (fa : FA) : FS := fun δ => (fa δ).bindS fun ds δ1 => if ds.length = k then .exc ⟨n, ds.reverse⟩ δ1 else .bad
end
end
end TS

namespace TS
open PySem L2 PySem.W PySem.Calls PyProof.Rows
noncomputable section
structure Cau where
  i : Nat
  a : Addr
  cls : Value
  d : Option Addr
  x : XD
def Zx (M : Gm) (q : Cau) (F : Hp) (σ : L2.St) : Prop := σ[q.i]? = some (some (.ref q.a)) ∧ xAt M F q.x q.cls q.d F
theorem xAt_mono {M : Gm} {F F' H H' : Hp} {x : XD} {cls : Value} {d : Option Addr} (g : Same F F') (h : xAt M F x cls d H) : xAt M F' x cls d H' := by
  obtain ⟨C, h1, h2, h3⟩ := h
  refine ⟨C, h1, h2, ?_⟩
  rcases h3 with h3 | ⟨dd, fs, k1, k2, k3, k4⟩
  · exact .inl h3
  · exact .inr ⟨dd, fs, k1, g _ _ k2, k3, reps_mono g _ _ k4⟩
theorem Zx.mono {M : Gm} {q : Cau} {F F' : Hp} {σ : L2.St} (h : Zx M q F σ) (g : Same F F') : Zx M q F' σ := ⟨h.1, xAt_mono g h.2⟩
def DTz (M : Gm) (W : WX) (X : Cx) (q : Cau) (e : Expr) (f : FT) : Prop := ∃ t, PT X e t ∧ ∀ (c : Cn M) F H σ δ Q, Zx M q F σ → Ok c F H σ δ → Post c W F σ ρT (f δ) Q → t σ H Q
def DWz (M : Gm) (W : WX) (X : Cx) (q : Cau) (e : Expr) (f : FT) : Prop := ∃ t, PW X e t ∧ ∀ (c : Cn M) F H σ δ Q, Zx M q F σ → Ok c F H σ δ → Post c W F σ ρT (f δ) Q → t σ H Q
section
variable {M : Gm} {c : Cn M} {W : WX} {X : Cx} {q : Cau} {e a b : Expr} {es : List Expr} {pos p : Pos}
theorem DWz.pt {f : FT} (h : DWz M W X q e f) : DTz M W X q e f := let ⟨t, p, h⟩ := h; ⟨t, p.pt, h⟩
end
section
variable {X : Cx} {a C : Addr} {oe : Obj} {pn : List (Addr × Obj)} {d : Option Addr}
end
section
variable {M : Gm} {W : WX} {X : Cx} {a : Addr} {oe : Obj} {pn : List (Addr × Obj)} {i : Nat} {cls : Value} {d : Option Addr} {x : XD} {e c1 : Expr} {pos p : Pos}
end
def PostZ (c : Cn M) (q : Cau) (F : Hp) (r : SR) (E : Ends) : Prop := match r with
  | .nx δ' => ∀ F' H' σ', Same F F' → Zx M q F' σ' → Ok c F' H' σ' δ' → E.nx σ' H'
  | .rt r δ' => ∀ v F' H' σ', Same F F' → Ok c F' H' σ' δ' → repR c F' H' σ' δ' r v → E.rt v H'
  | _ => False
section
variable {M : Gm} {c : Cn M} {X : Cx} {q : Cau} {F F1 H : Hp} {σ : L2.St} {δ : Sl}
theorem PostZ.shift {r : SR} {E : Ends} (h : PostZ c q F r E) (g : Same F F1) : PostZ c q F1 r E := by
  cases r with
  | nx δ' => exact fun F' H' σ' s => h F' H' σ' (g.trans s)
  | rt r δ' => exact fun v F' H' σ' s => h v F' H' σ' (g.trans s)
  | bk δ' => exact h
  | ct δ' => exact h
  | exc x δ' => exact h
  | bad => exact h
end
section
variable {X : Cx} {n : Str} {i : Nat} {body : List Stmt} {h₀ : ExceptHandler} {hds : List ExceptHandler} {l : List (Value × (Addr → Value → Option Addr → TS))} {pos : Pos} {tb : WX → TS} {Wout : WX}
end
section
variable {M : Gm} {c : Cn M} {X : Cx} {q : Cau} {F H : Hp} {σ : L2.St} {δ : Sl}
theorem Ok.put (ok : Ok c F H σ δ) (i : Nat) (o : Option V) : Ok c F H (σ.set i o) (δ.set i none) where
  same := ok.same
  grow := ok.grow
  nofz := ok.nofz
  kept := ok.kept
  ioh := ok.ioh
  tb := ok.tb
  len := by simp [ok.len]
  slot := fun j r e => by
    rcases getElem?_set_some e with ⟨rfl, e1, _⟩ | ⟨hn, e1⟩
    · cases e1
    · rw [List.getElem?_set_ne hn]; exact ok.slot j r e1
  dist := fun j k r1 r2 w hjk e1 e2 m1 m2 s1 s2 => by
    rcases getElem?_set_some e1 with ⟨rfl, z, _⟩ | ⟨hn, q1⟩
    · cases z
    · rcases getElem?_set_some e2 with ⟨rfl, z, _⟩ | ⟨hn2, q2⟩
      · cases z
      · rw [List.getElem?_set_ne hn] at s1
        rw [List.getElem?_set_ne hn2] at s2
        exact ok.dist j k r1 r2 w hjk q1 q2 m1 m2 s1 s2
def hNil : XD → Option FS := fun _ => none
end
end
end TS

namespace TS
open PySem L2 PySem.W
noncomputable section
section
variable {K : PySem.W.Frag}
end
end
end TS

namespace TS
open PySem PySem.Spec PyProof.Rows L2
noncomputable section
def fLenSet (f : FD) : FD := fun δ => (f δ).bind fun d δ => match d with
  | .lst ds => (match intsD ds with
    | some ns => if ns.length ≤ 4000 then .ok (.int (ns.eraseDups.length : Nat)) δ else .bad
    | none => .bad)
  | _ => .bad
end
end TS

namespace TS
open PySem L2
noncomputable section
abbrev FX := Sl → Res (List R)
def fxNil : FX := fun δ => .ok [] δ
def fxCons (f : FE) (g : FX) : FX := fun δ => (f δ).bind fun r δ1 => match r with
  | .brw _ => .bad
  | .nst _ _ => .bad
  | r => (g δ1).bind fun rs δ2 => .ok (r :: rs) δ2
def repM {M : Gm} (c : Cn M) (F H : Hp) (σ : St) (δ : Sl) : R → V → Prop
  | .nst _ _, _ => False
  | .imm d, v => repR c F H σ δ (.imm d) v
  | .own d, v => repR c F H σ δ (.own d) v
  | .brw d, v => repR c F H σ δ (.brw d) v
def repXs {M : Gm} (c : Cn M) (F H : Hp) (σ : St) (δ : Sl) : List R → List V → Prop
  | [], vs => vs = []
  | r :: rs, vs => ∃ v ws, vs = v :: ws ∧ repM c F H σ δ r v ∧ repXs c F H σ δ rs ws ∧ (r.mu = true → ∀ (i : Nat) (r' : R), rs[i]? = some r' → r'.mu = true → ws[i]? ≠ some v)
def DX (M : Gm) (W : WX) (X : Cx) (es : List Expr) (f : FX) : Prop := ∃ t, PA X es t ∧ ∀ (c : Cn M) F H σ δ Q, Ok c F H σ δ → Post c W F σ (fun F H δ rs vs => repXs c F H σ δ rs vs) (f δ) Q → t σ H Q
section
variable {M : Gm} {c : Cn M} {W : WX} {X : Cx} {F H : Hp} {σ : St} {δ : Sl}
theorem dx_nil : DX M W X [] fxNil := ⟨_, pa_nil, fun c F H σ δ Q ok post => post.ok ok rfl⟩
theorem repXs_unguard {a : Addr} {u : HO} {hn : NT u} (h0 : c.H0 a = none) : ∀ {rs : List R} {vs : List V}, repXs (c.guard a u hn) F H σ δ rs vs → repXs c F H σ δ rs vs ∧ ∀ (i : Nat) (r' : R), rs[i]? = some r' → r'.mu = true → vs[i]? ≠ some (V.ref a)
  | [], vs, h => ⟨h, fun i r' e => by simp at e⟩
  | r :: rs, vs, h => by
    obtain ⟨v, ws, rfl, h1, h2, h3⟩ := h
    obtain ⟨k1, k2⟩ := repXs_unguard h0 h2
    have hr : repM c F H σ δ r v ∧ (r.mu = true → v ≠ V.ref a) := by
      cases r with
      | imm d => exact ⟨h1, fun z => by cases z⟩
      | brw o => exact h1.elim
      | nst tp ps => exact h1.elim
      | own o =>
        obtain ⟨b, rfl, l1, l2, l3, l4⟩ := h1
        have hba : b ≠ a := fun z => by
          have : (c.guard a u hn).H0 a = some u := if_pos rfl
          rw [z, this] at l2; cases l2
        have l2' : c.H0 b = none := by
          have : (c.guard a u hn).H0 b = c.H0 b := if_neg hba
          rw [← this]; exact l2
        exact ⟨⟨b, rfl, l1, l2', l3, l4⟩, fun _ z => by cases z; exact hba rfl⟩
    refine ⟨⟨v, ws, rfl, hr.1, k1, h3⟩, fun i r' e m => ?_⟩
    cases i with
    | zero =>
      simp at e
      subst e
      intro z
      simp at z
      exact hr.2 m z
    | succ i => exact k2 i r' (by simpa using e) m
theorem dx_cons {a : Expr} {es : List Expr} {f : FE} {g : FX} (ha : DE M W X a f) (hb : DX M W X es g) (h1 : starEach (a :: es) X.env = (false, eval a X.env) :: starEach es X.env := by rfl) : DX M W X (a :: es) (fxCons f g) := by
  obtain ⟨t, p, ha⟩ := ha
  obtain ⟨t', p', hb⟩ := hb
  refine ⟨_, pa_cons p p' h1, fun c F H σ δ Q ok post => ha c F H σ δ _ ok (Post.bind post fun r δ1 v F1 H1 _ s1 ok1 rr post => ?_)⟩
  cases r with
  | brw o => exact post.elim
  | nst _ _ => exact post.elim
  | imm d =>
    refine hb c F1 H1 σ δ1 _ ok1 (Post.bind post fun rs δ2 ws F2 H2 _ s2 ok2 rr' post => ?_)
    exact post.ok ok2 ⟨v, ws, rfl, rep_mono s2 _ _ rr, rr', fun z => by cases z⟩
  | own o =>
    obtain ⟨a, rfl, k1, k2, k3, k4⟩ := rr
    obtain ⟨u, hu, hn⟩ := obAt_nt k3
    have okg := ok1.guard k1 k2 hu hn k4
    have f0 : c.F0 a = none := by
      cases z : c.F0 a with
      | none => rfl
      | some q => rw [ok1.grow a q z] at k1; cases k1
    have un : ∀ {F2 H2 : Hp} {δ2 : Sl}, Same F1 F2 → Ok (c.guard a u hn) F2 H2 σ δ2 → Ok c F2 H2 σ δ2 ∧ repR c F2 H2 σ δ2 (.own o) (.ref a) := fun {F2 H2 δ2} g ok2 => by
      obtain ⟨q1, q2, q3, q4⟩ := ok2.unguard k2
      exact ⟨q1, a, rfl, q2 f0, k2, obAt_mono g (q3.trans hu.symm) k3, q4⟩
    refine hb (c.guard a u hn) F1 H1 σ δ1 _ okg ?_
    cases q : g δ1 with
    | bad => simp only [q] at post; exact post
    | exc x δ2 => simp only [q] at post; exact fun cls d F2 H2 g ok2 xa => post cls d F2 H2 g (un g ok2).1 xa
    | ok rs δ2 =>
      simp only [q] at post
      intro ws F2 H2 s2 ok2 rr'
      obtain ⟨ok3, ro⟩ := un s2 ok2
      obtain ⟨l1, l2⟩ := repXs_unguard k2 rr'
      exact post _ F2 H2 s2 ok3 ⟨_, ws, rfl, ro, l1, fun _ => l2⟩
theorem Ok.setR (ok : Ok c F H σ δ) {r : R} {v : V} (i : Nat) (h : repM c F H σ δ r v) : Ok c F H (σ.set i (some v)) (δ.set i (some r)) := by
  cases r with
  | imm d => exact ok.setI i h
  | own o => exact ok.setO i h
  | brw o => exact h.elim
  | nst _ _ => exact h.elim
theorem repR_setR {r r' : R} {v w : V} {i : Nat} (hl : i < σ.length) (h : repM c F H σ δ r' w) (hd : r.mu = true → r'.mu = true → w ≠ v) : repM c F H (σ.set i (some v)) (δ.set i (some r)) r' w := by
  cases r' with
  | imm d' => exact h
  | brw o => exact h
  | nst _ _ => exact h.elim
  | own o =>
    obtain ⟨a, rfl, h1, h2, h3, h4⟩ := h
    refine ⟨a, rfl, h1, h2, h3, fun k r0 e m => ?_⟩
    rcases getElem?_set_some e with ⟨rfl, z, _⟩ | ⟨hn, e⟩
    · cases z
      rw [List.getElem?_set_self hl]
      intro q
      exact hd m rfl (Option.some.inj (Option.some.inj q)).symm
    · rw [List.getElem?_set_ne hn]; exact h4 k r0 e m
def sPar3E (i j l : Nat) (f : FX) : FS := fun δ => (f δ).bindS fun rs δ1 => match rs with
  | [a, b, c] => if i < δ1.length ∧ j < δ1.length then .nx (((δ1.set i (some a)).set j (some b)).set l (some c)) else .bad
  | _ => .bad
theorem ds_par3E {i j l : Nat} {x y z : Str} {a b c : Expr} {fa : FX} {px py pz pt pos : Pos} {kt k2 pt2} (hc : X.calm = true) (hN : X.N.Nodup) (hi : X.N[i]? = some x) (hj : X.N[j]? = some y) (hl : X.N[l]? = some z) (hij : i ≠ j) (hil : i ≠ l) (hjl : j ≠ l)
    (hx : X.env.scope.names.lookup x = some .local) (hy : X.env.scope.names.lookup y = some .local) (hz : X.env.scope.names.lookup z = some .local) (ha : DX M W X [a, b, c] fa)
    (hw : swappedStores [.Tuple [.Name x px, .Name y py, .Name z pz] kt pt] (.Tuple [a, b, c] k2 pt2) X.env = pure (some [x, y, z]))
    (hs : swapsWithSole [.Tuple [.Name x px, .Name y py, .Name z pz] kt pt] (.Tuple [a, b, c] k2 pt2) pos.line X.env = pure false := by rfl) :
    DS M W X (.Assign [.Tuple [.Name x px, .Name y py, .Name z pz] kt pt] (.Tuple [a, b, c] k2 pt2) pos) (sPar3E i j l fa) := by
  obtain ⟨t, p, h⟩ := ha
  refine ⟨_, ps_par3 hc hN hi hj hl hij hil hjl hx hy hz p hw hs, fun c F H σ δ E ok post => h c F H σ δ _ ok (PostS.ofE post fun rs δ1 vs F1 H1 _ s1 ok1 rr post => ?_)⟩
  split at post
  · rename_i r1 r2 r3 _
    split at post
    · rename_i hlen
      obtain ⟨u, ws, rfl, k1, rr, d1⟩ := rr
      obtain ⟨v, ws, rfl, k2, rr, d2⟩ := rr
      obtain ⟨w, ws, rfl, k3, rr, _⟩ := rr
      obtain rfl : ws = [] := rr
      have li : i < σ.length := by rw [ok1.len]; exact hlen.1
      have lj : j < σ.length := by rw [ok1.len]; exact hlen.2
      have e12 : r1.mu = true → r2.mu = true → v ≠ u := fun m1 m2 z => d1 m1 0 r2 rfl m2 (by rw [z]; rfl)
      have e13 : r1.mu = true → r3.mu = true → w ≠ u := fun m1 m2 z => d1 m1 1 r3 rfl m2 (by rw [z]; rfl)
      have e23 : r2.mu = true → r3.mu = true → w ≠ v := fun m1 m2 z => d2 m1 0 r3 rfl m2 (by rw [z]; rfl)
      exact ⟨u, v, w, rfl, post F1 H1 _ (Same.refl _) (((ok1.setR i k1).setR j (repR_setR li k2 e12)).setR l (repR_setR (by simpa using lj) (repR_setR li k3 e13) e23))⟩
    · exact post.elim
  · exact post.elim
end
end
end TS

namespace TS
open PySem PySem.Spec PyProof.Rows L2
noncomputable section
section
variable {X : Cx} {pins : List (Addr × Obj)} {σ : L2.St} {H : Hp} {s : Shared} {a b : Addr} {u r : Value} {d : V} {k : List Key} {A : Around} {E : Value → Shared → Prop}
theorem d_setdT {kvs : List (List Key × V)} {Q : Value → Shared → Prop} (hu : A.units + 1 < cLine) (I : Inv X pins σ H s) (e : H a = some (.dT kvs)) (eb : H b = some (.tup (k.map kV))) (rd : RelV d r) (hl : kvs.length < sizeLine)
    (h1 : ∀ v, valV kvs k = some v → ∀ (w' : Value) (s' : Shared), Inv X pins σ H s' → RelV v w' → Q w' s') (h2 : valV kvs k = none → ∀ (w' : Value) (s' : Shared), Inv X pins σ (upd H a (.dT (putK kvs k d))) s' → RelV d w' → Q w' s') :
    wpAny (model X.prog X.w) A (call (.builtin "dict.setdefault") [.ref a, .ref b, r]) Q E s := by
  obtain ⟨z, hd, xs, rel, dd⟩ := dt_of I.hok e
  have hz : xs.length ≤ sizeLine := by rw [← Paired.length rel]; exact z
  have hl2 : (putK kvs k d).length ≤ sizeLine := by have := length_putK kvs k d; omega
  have q := rel.val k
  refine call_setdefault_heap (hsz := hz) (tupleKind_room_in1 hu) (key_of I.hok eb) hd dd (fun p hp => ?_) fun hn h' dd' hs => ?_
  · rw [hp] at q
    cases q0 : valV kvs k with
    | none => rw [q0] at q; exact (show False from q).elim
    | some v0 => rw [q0] at q; exact h1 v0 q0 _ _ (I.tok _) q
  · rw [hn] at q
    cases q0 : valV kvs k with
    | some v0 => rw [q0] at q; exact (show False from q).elim
    | none =>
      obtain ⟨q, es, ep, hq, k2, k3, k4, _, k5⟩ := dd'
      refine h2 q0 _ _ (d_write I (by rw [e]; exact True.intro) hs ⟨q, hq⟩ ⟨hl2, hd, _, (rel.put k eb rd).keeps fun c ys ec => ?_, q, es, ep, hq, k2, k3, k4, k5⟩) rd
      rw [upd_ne (L2.ne_of ec e (fun z => nomatch z))]
      exact ec
def tDSetdT (td ty tx : TE) : TE := fun σ H Q => td σ H fun x H1 => ∃ a, x = .ref a ∧ IsD H1 a ∧ ty σ H1 fun y H2 => tx σ H2 fun z H3 => ∃ (kvs : List (List Key × V)) (k : List Key) (b : Addr), H3 a = some (.dT kvs) ∧ y = .ref b ∧ H3 b = some (.tup (k.map kV)) ∧ kvs.length < sizeLine ∧
  (∀ v, valV kvs k = some v → Q v H3) ∧ (valV kvs k = none → Q z (upd H3 a (.dT (putK kvs k z))))
theorem pe_dsetdT {o e f : Expr} {td ty tx : TE} {apos cpos : Pos} (hu : X.A.units + 1 < cLine) (ho : PE X o td) (he : PE X e ty) (hf : PE X f tx) (m : M2 X o "setdefault" apos e f cpos) : PE X (.Call (.Attribute o "setdefault" apos) [e, f] [] cpos) (tDSetdT td ty tx) := by
  refine ⟨fun pins s σ H Q I h => ?_⟩
  refine wpAny_Call_method m.base m.few m.line PySem.F.plainAttrs_dict PySem.F.slot_dict_setdefault PySem.F.type_dict_setdefault (thn (ho.run pins s σ H _ I h) fun u s1 ⟨x, H1, I1, rx, a, ex, d, q1⟩ => ?_)
  subst ex
  obtain rfl : u = Value.ref a := rx
  obtain ⟨t1, t2, _⟩ := isD_at I1 d
  refine ⟨t1, t2, ?_⟩
  rw [m.trees]
  refine Calls.callWith_builtin rfl (Calls.evalArgs_plain (Calls.spliced_cons (thn (he.run pins s1 σ H1 _ I1 q1) fun iv s2 ⟨y, H2, I2, ry, q2⟩ =>
    Calls.spliced_cons (thn (hf.run pins s2 σ H2 _ I2 q2) fun fv s3 ⟨z, H3, I3, rz, kvs, k, b, ea, ey, eb, hl, q3, q4⟩ => Calls.spliced_nil ?_))))
  subst ey
  obtain rfl : iv = Value.ref b := ry
  exact d_setdT hu I3 ea eb rz hl (fun v hv w' s4 I4 rw' => ⟨v, _, I4, rw', q3 v hv⟩) fun hn w' s4 I4 rw' => ⟨z, _, I4, rw', q4 hn⟩
end
end
end TS
namespace TS
open PySem L2
noncomputable section
inductive Pth where
  | self | fld (j : Nat) | row (j e : Nat)
deriving DecidableEq
inductive NF where
  | d (d : D) | dk (ks : List Key) (ds : List D) | rk (L : List (Key × List D)) | rt (L : List (List Key × List D))
def NF.toD : NF → D
  | .d x => x
  | .dk ks ds => .dK ks ds
  | .rk L => .dK (L.map (·.1)) (L.map fun x => .lst x.2)
  | .rt L => .dT (L.map (·.1)) (L.map fun x => .lst x.2)
structure NS where
  δ : Sl
  n : Nat
  fs : List NF
  al : Option (Nat × Nat)
def immS (δ : Sl) : Bool := δ.all fun x => match x with
  | none => true
  | some (.imm _) => true
  | _ => false
abbrev Adr := Pth → Addr
abbrev Con := Pth → Option HO
def setC {α : Type} (f : Pth → α) (p : Pth) (a : α) : Pth → α := fun q => if q = p then a else f q
@[simp] theorem setC_same {α : Type} (f : Pth → α) (p : Pth) (a : α) : setC f p a p = a := if_pos rfl
theorem setC_ne {α : Type} {f : Pth → α} {p q : Pth} {a : α} (h : q ≠ p) : setC f p a q = f q := if_neg h
section
variable {M : Gm}
structure NBas (c : Cn M) (F H : Hp) : Prop where
  same : Same F H
  grow : Same c.F0 F
  nofz : ∀ b, c.H0 b ≠ none → c.F0 b = none → F b = none
  kept : ∀ b o, c.H0 b = some o → c.io ≠ some b → H b = some o
  ioh : ∀ a, c.io = some a → ∃ u, H a = some u ∧ NT u
  tb : Tb M F H
structure Cells (c : Cn M) (F H : Hp) (adr : Adr) (cont : Con) : Prop where
  at_ : ∀ p o, cont p = some o → H (adr p) = some o
  fr : ∀ p o, cont p = some o → F (adr p) = none
  h0 : ∀ p o, cont p = some o → p ≠ .self → c.H0 (adr p) = none
  inj : ∀ p q o o', cont p = some o → cont q = some o' → adr p = adr q → p = q
  io : c.io = some (adr .self)
  sf : ∃ o, cont .self = some o
  nt : ∀ p o, cont p = some o → NT o
variable {c : Cn M} {F F' H H' : Hp} {adr : Adr} {cont : Con}
theorem NBas.h0 (b : NBas c F H) {p : Addr} (hp : H p = none) : c.H0 p = none := by
  cases e : c.H0 p with
  | none => rfl
  | some o =>
    by_cases hi : c.io = some p
    · obtain ⟨u, e1, _⟩ := b.ioh p hi
      rw [hp] at e1; cases e1
    · rw [b.kept p o e hi] at hp; cases hp
theorem NBas.hn (b : NBas c F H) {p : Addr} (hp : c.H0 p ≠ none) : ∃ u, H p = some u ∧ NT u := by
  by_cases hi : c.io = some p
  · exact b.ioh p hi
  · cases e : c.H0 p with
    | none => exact absurd e hp
    | some o => exact ⟨o, b.kept p o e hi, c.nt p o e⟩
theorem NBas.f (b : NBas c F H) {p : Addr} (hp : H p = none) : F p = none := b.same.free hp
theorem NBas.stp (b : NBas c F H) (st : Stp M F H F' H' none) : NBas c F' H' := by
  have kp : ∀ b o, H b = some o → NT o → H' b = some o := fun b o e n => st.kept b o e n (fun z => by cases z)
  refine ⟨st.same, b.grow.trans st.grow, fun x e1 e2 => ?_, fun x o e1 e2 => kp x o (b.kept x o e1 e2) (c.nt x o e1), fun x e1 => ?_, st.tb⟩
  · obtain ⟨u, k1, k2⟩ := b.hn e1
    exact st.nofz x u k1 k2 (b.nofz x e1 e2)
  · obtain ⟨o, q1, q2⟩ := b.ioh x e1
    exact ⟨o, kp x o q1 q2, q2⟩
theorem Cells.stp (k : Cells c F H adr cont) (st : Stp M F H F' H' none) : Cells c F' H' adr cont := by
  have kp : ∀ b o, H b = some o → NT o → H' b = some o := fun b o e n => st.kept b o e n (fun z => by cases z)
  exact ⟨fun p o e => kp _ _ (k.at_ p o e) (k.nt p o e), fun p o e => st.nofz _ o (k.at_ p o e) (k.nt p o e) (k.fr p o e), k.h0, k.inj, k.io, k.sf, k.nt⟩
theorem stp_alloc (s : Same F H) (t : Tb M F H) {p : Addr} {o : HO} (hp : H p = none) : Stp M F H F (upd H p o) none :=
  ⟨Same.refl _, fun _ _ _ _ e => e, fun b u e _ _ => by rw [upd_ne (L2.ne_of_none e hp)]; exact e, fun b u e => by rw [upd_ne (L2.ne_of_none (s b u e) hp)]; exact s b u e, t.alloc hp⟩
theorem Cells.put (k : Cells c F H adr cont) {p : Pth} {o o' : HO} (e : cont p = some o) (hn : NT o' := by rfl) : Cells c F (upd H (adr p) o') adr (setC cont p (some o')) := by
  have other : ∀ q u, q ≠ p → cont q = some u → adr q ≠ adr p := fun q u hq e' z => hq (k.inj q p u o e' e z)
  have back : ∀ q u, setC cont p (some o') q = some u → ∃ u', cont q = some u' := fun q u e' => by
    by_cases z : q = p
    · exact ⟨o, z ▸ e⟩
    · rw [setC_ne z] at e'; exact ⟨u, e'⟩
  refine ⟨fun q u e' => ?_, fun q u e' => ?_, fun q u e' hq => ?_, fun q q' u u' e1 e2 => ?_, k.io, ?_, fun q u e' => ?_⟩
  · by_cases z : q = p
    · subst z; rw [setC_same] at e'; cases e'; exact upd_same
    · rw [setC_ne z] at e'; rw [upd_ne (other q u z e')]; exact k.at_ q u e'
  · obtain ⟨u', z⟩ := back q u e'; exact k.fr q u' z
  · obtain ⟨u', z⟩ := back q u e'; exact k.h0 q u' z hq
  · obtain ⟨v, z⟩ := back q u e1
    obtain ⟨v', z'⟩ := back q' u' e2
    exact k.inj q q' v v' z z'
  · obtain ⟨u, hu⟩ := k.sf
    by_cases z : Pth.self = p
    · exact ⟨o', by rw [← z, setC_same]⟩
    · exact ⟨u, by rw [setC_ne z]; exact hu⟩
  · by_cases z : q = p
    · subst z; rw [setC_same] at e'; cases e'; exact hn
    · rw [setC_ne z] at e'; exact k.nt q u e'
theorem NBas.put (b : NBas c F H) (k : Cells c F H adr cont) {p : Pth} {o o' : HO} (e : cont p = some o) (hn : NT o' := by rfl) : NBas c F (upd H (adr p) o') := by
  refine ⟨fun x u h => ?_, b.grow, b.nofz, fun x u e1 e2 => ?_, fun x e1 => ?_, b.tb.write (k.at_ p o e) (k.nt p o e)⟩
  · have z : x ≠ adr p := fun z => by rw [z, k.fr p o e] at h; cases h
    rw [upd_ne z]; exact b.same x u h
  · have z : x ≠ adr p := fun z => by
      by_cases hs : p = .self
      · subst hs; exact e2 (by rw [z]; exact k.io)
      · rw [z, k.h0 p o e hs] at e1; cases e1
    rw [upd_ne z]; exact b.kept x u e1 e2
  · by_cases z : x = adr p
    · exact ⟨o', by rw [z, upd_same], hn⟩
    · rw [upd_ne z]; exact b.ioh x e1
theorem Cells.new (b : NBas c F H) (k : Cells c F H adr cont) {p : Pth} {a : Addr} {o : HO} (hs : p ≠ .self) (e : cont p = none) (ha : H a = none) (hn : NT o := by rfl) : Cells c F (upd H a o) (setC adr p a) (setC cont p (some o)) := by
  have other : ∀ q u, cont q = some u → adr q ≠ a := fun q u e' z => by rw [← z, k.at_ q u e'] at ha; cases ha
  have ne : ∀ q u, cont q = some u → q ≠ p := fun q u e' z => by rw [z, e] at e'; cases e'
  refine ⟨fun q u e' => ?_, fun q u e' => ?_, fun q u e' hq => ?_, fun q q' u u' e1 e2 h => ?_, ?_, ?_, fun q u e' => ?_⟩
  · by_cases z : q = p
    · subst z; rw [setC_same] at e' ⊢; cases e'; exact upd_same
    · rw [setC_ne z] at e' ⊢; rw [upd_ne (other q u e')]; exact k.at_ q u e'
  · by_cases z : q = p
    · subst z; rw [setC_same]; exact b.f ha
    · rw [setC_ne z] at e' ⊢; exact k.fr q u e'
  · by_cases z : q = p
    · subst z; rw [setC_same]; exact b.h0 ha
    · rw [setC_ne z] at e' ⊢; exact k.h0 q u e' hq
  · by_cases z : q = p
    · by_cases z' : q' = p
      · rw [z, z']
      · rw [z, setC_same, setC_ne z'] at h
        rw [setC_ne z'] at e2
        exact absurd h.symm (other q' u' e2)
    · rw [setC_ne z] at e1 h
      by_cases z' : q' = p
      · rw [z', setC_same] at h
        exact absurd h (other q u e1)
      · rw [setC_ne z'] at e2 h
        exact k.inj q q' u u' e1 e2 h
  · rw [setC_ne (Ne.symm hs)]; exact k.io
  · obtain ⟨u, hu⟩ := k.sf
    exact ⟨u, by rw [setC_ne (Ne.symm hs)]; exact hu⟩
  · by_cases z : q = p
    · subst z; rw [setC_same] at e'; cases e'; exact hn
    · rw [setC_ne z] at e'; exact k.nt q u e'
structure SlI (F : Hp) (σ : St) (δ : Sl) : Prop where
  len : σ.length = δ.length
  at_ : ∀ (i : Nat) (r : R), δ[i]? = some (some r) → ∃ d v, r = .imm d ∧ σ[i]? = some (some v) ∧ rep M F d v
end
def frm (M : Gm) (F H : Hp) : Cn M := ⟨F, str0 H, none, fun _ e => (nomatch e), fun _ _ h => (str0_nt h).2, none, fun _ z => nomatch z⟩
section
variable {M : Gm} {c : Cn M} {F F' H H' : Hp} {σ : St} {δ δ' : Sl} {W : WX} {X : Cx}
theorem SlI.mono (h : SlI (M := M) F σ δ) (g : Same F F') : SlI (M := M) F' σ δ := ⟨h.len, fun i r e => by
  obtain ⟨d, v, h1, h2, h3⟩ := h.at_ i r e
  exact ⟨d, v, h1, h2, rep_mono g _ _ h3⟩⟩
theorem SlI.ok (h : SlI (M := M) F σ δ) (s : Same F H) (t : Tb M F H) : Ok (frm M F H) F H σ δ where
  same := s
  grow := Same.refl _
  nofz := fun _ _ e => e
  kept := fun _ _ e _ => (str0_nt e).1
  ioh := fun _ e => (nomatch e)
  tb := t
  len := h.len
  slot := fun i r e => by
    obtain ⟨d, v, rfl, h2, h3⟩ := h.at_ i r e
    exact ⟨v, h2, h3⟩
  dist := fun i j r r' v _ e _ m => by
    obtain ⟨d, v, rfl, h2, h3⟩ := h.at_ i r e
    cases m
theorem immS_at (h : immS δ = true) {i : Nat} {r : R} (e : δ[i]? = some (some r)) : ∃ d, r = .imm d := by
  unfold immS at h
  rw [List.all_eq_true] at h
  have := h _ (List.mem_of_getElem? e)
  cases r with
  | imm d => exact ⟨d, rfl⟩
  | own o => cases this
  | brw o => cases this
  | nst _ _ => cases this
theorem SlI.back {F0 H0 : Hp} (ok : Ok (frm M F0 H0) F H σ δ) (hi : immS δ = true) : SlI (M := M) F σ δ := ⟨ok.len, fun i r e => by
  obtain ⟨d, rfl⟩ := immS_at hi e
  obtain ⟨v, h1, h2⟩ := ok.slot i _ e
  exact ⟨d, v, rfl, h1, h2⟩⟩
theorem stp_back {F0 H0 : Hp} (ok : Ok (frm M F0 H0) F H σ δ) : Stp M F0 H0 F H none := ⟨ok.grow, fun b o e1 n e2 => ok.nofz b (by show str0 H0 b ≠ none; rw [str0_of e1 n]; exact fun z => nomatch z) e2, fun b o e n _ => ok.kept b o (str0_of e n) (fun z => nomatch z), ok.same, ok.tb⟩
theorem di_frm {e : Expr} {f : FD} (h : DI M W X e f) : ∃ t, PE X e t ∧ ∀ F H σ δ d δ' (Q : VK), Same F H → Tb M F H → SlI (M := M) F σ δ → f δ = .ok d δ' → immS δ' = true → (∀ v F' H', Stp M F H F' H' none → SlI (M := M) F' σ δ' → rep M F' d v → Q v H') → t σ H Q := by
  obtain ⟨t, p, h⟩ := h
  refine ⟨t, p, fun F H σ δ d δ' Q s tb sl e hi q => h (frm M F H) F H σ δ Q (sl.ok s tb) ?_⟩
  rw [e]
  exact fun v F' H' g ok r => q v F' H' (stp_back ok) (SlI.back ok hi) r
theorem dt_frm {e : Expr} {f : FT} (h : DT M W X e f) : ∃ t, PT X e t ∧ ∀ F H σ δ b δ' (Q : Bool → Hp → Prop), Same F H → Tb M F H → SlI (M := M) F σ δ → f δ = .ok b δ' → immS δ' = true → (∀ F' H', Stp M F H F' H' none → SlI (M := M) F' σ δ' → Q b H') → t σ H Q := by
  obtain ⟨t, p, h⟩ := h
  refine ⟨t, p, fun F H σ δ b δ' Q s tb sl e hi q => h (frm M F H) F H σ δ Q (sl.ok s tb) ?_⟩
  rw [e]
  intro v F' H' g ok r
  cases (show b = v from r)
  exact q F' H' (stp_back ok) (SlI.back ok hi)
theorem dit_frm {tg e : Expr} {f : FA} (h : DIt M W X tg e f) : ∃ t, PI X tg e t ∧ ∀ F H σ δ ds δ' (Q : It → Hp → Prop), Same F H → Tb M F H → SlI (M := M) F σ δ → f δ = .ok ds δ' → immS δ' = true → (∀ J F' H', Stp M F H F' H' none → SlI (M := M) F' σ δ' → Walks M J F' ds → Q J H') → t σ H Q := by
  obtain ⟨t, p, h⟩ := h
  refine ⟨t, p, fun F H σ δ b δ' Q s tb sl e hi q => h (frm M F H) F H σ δ Q (sl.ok s tb) ?_⟩
  rw [e]
  exact fun v F' H' g ok r => q v F' H' (stp_back ok) (SlI.back ok hi) r
theorem SlI.setI (h : SlI (M := M) F σ δ) {d : D} {v : V} (i : Nat) (r : rep M F d v) : SlI (M := M) F (σ.set i (some v)) (δ.set i (some (.imm d))) := ⟨by simp [h.len], fun j r' e => by
  rcases getElem?_set_some e with ⟨rfl, e1, hl⟩ | ⟨hn, e1⟩
  · cases e1
    exact ⟨d, v, rfl, List.getElem?_set_self (by rw [h.len]; exact hl), r⟩
  · rw [List.getElem?_set_ne hn]
    exact h.at_ j r' e1⟩
end
end
end TS

namespace TS
open PySem L2
noncomputable section
section
variable {M : Gm}
def rowsOk (M : Gm) (F : Hp) (adr : Adr) (cont : Con) (j : Nat) {κ : Type} (mk : List (κ × V) → HO) (L : List (κ × List D)) (v : V) : Prop :=
  v = .ref (adr (.fld j)) ∧ (∃ kvs : List (κ × V), cont (.fld j) = some (mk kvs) ∧ kvs.map (·.1) = L.map (·.1) ∧ ∀ (e : Nat) (kv : κ × V), kvs[e]? = some kv → kv.2 = .ref (adr (.row j e))) ∧
  (∀ (e : Nat) (x : κ × List D), L[e]? = some x → ∃ vs, cont (.row j e) = some (.lst vs) ∧ reps M F x.2 vs) ∧ ∀ e, L.length ≤ e → cont (.row j e) = none
def fldOk (M : Gm) (F : Hp) (adr : Adr) (cont : Con) (j : Nat) : NF → V → Prop
  | .d x, v => rep M F x v
  | .dk ks ds, v => v = .ref (adr (.fld j)) ∧ ∃ kvs : List (Key × V), cont (.fld j) = some (.dK kvs) ∧ kvs.map (·.1) = ks ∧ reps M F ds (kvs.map (·.2))
  | .rk L, v => rowsOk M F adr cont j HO.dK L v
  | .rt L, v => rowsOk M F adr cont j HO.dT L v
structure NK (c : Cn M) (i0 ir : Nat) (F H : Hp) (σ : St) (s : NS) (adr : Adr) (cont : Con) (C dx : Addr) (fvs : List (Str × V)) : Prop where
  bas : NBas c F H
  cel : Cells c F H adr cont
  sl : SlI (M := M) F σ s.δ
  G : M.G s.n = some C
  sf : cont .self = some (.ins C dx fvs)
  nm : fvs.map (·.1) = (M.nm s.n).take s.fs.length
  ln : fvs.length = s.fs.length
  fl : ∀ (j : Nat) (f : NF) (p : Str × V), s.fs[j]? = some f → fvs[j]? = some p → fldOk M F adr cont j f p.2
  no : ∀ j, s.fs.length ≤ j → cont (.fld j) = none ∧ ∀ e, cont (.row j e) = none
  i0 : σ[i0]? = some (some (.ref (adr .self)))
  rn : (s.δ[ir]?).join = none
  al : ∀ j e, s.al = some (j, e) → σ[ir]? = some (some (.ref (adr (.row j e))))
def NOk (c : Cn M) (i0 ir : Nat) (F H : Hp) (σ : St) (s : NS) : Prop := ∃ adr cont C dx fvs, NK c i0 ir F H σ s adr cont C dx fvs
variable {c : Cn M} {i0 ir : Nat} {F F' H H' : Hp} {σ σ' : St} {s : NS} {adr : Adr} {cont : Con} {C dx : Addr} {fvs : List (Str × V)}
theorem rowsOk.mono {κ : Type} {mk : List (κ × V) → HO} {j : Nat} {L : List (κ × List D)} {v : V} (h : rowsOk M F adr cont j mk L v) (g : Same F F') : rowsOk M F' adr cont j mk L v := by
  obtain ⟨h1, h2, h3, h4⟩ := h
  exact ⟨h1, h2, fun e x hx => by
    obtain ⟨vs, k1, k2⟩ := h3 e x hx
    exact ⟨vs, k1, reps_mono g _ _ k2⟩, h4⟩
theorem fldOk.mono {j : Nat} {f : NF} {v : V} (h : fldOk M F adr cont j f v) (g : Same F F') : fldOk M F' adr cont j f v := by
  cases f with
  | d x => exact rep_mono g _ _ h
  | dk ks ds =>
    obtain ⟨h1, kvs, h2, h3, h4⟩ := h
    exact ⟨h1, kvs, h2, h3, reps_mono g _ _ h4⟩
  | rk L => exact rowsOk.mono h g
  | rt L => exact rowsOk.mono h g
theorem NK.step (k : NK c i0 ir F H σ s adr cont C dx fvs) (st : Stp M F H F' H' none) {δ' : Sl} (sl : SlI (M := M) F' σ' δ') (h0 : σ'[i0]? = σ[i0]?) (hr : σ'[ir]? = σ[ir]?) (hn : (δ'[ir]?).join = none) : NK c i0 ir F' H' σ' { s with δ := δ' } adr cont C dx fvs :=
  ⟨k.bas.stp st, k.cel.stp st, sl, k.G, k.sf, k.nm, k.ln, fun j f p e1 e2 => (k.fl j f p e1 e2).mono st.grow, k.no, h0.trans k.i0, hn, fun j e h => hr.trans (k.al j e h)⟩
theorem rowsOk.put {κ : Type} {mk : List (κ × V) → HO} {j j' : Nat} {L : List (κ × List D)} {v : V} {o : Option HO} (h : rowsOk M F adr cont j' mk L v) (hj : j' ≠ j) : rowsOk M F adr (setC cont (.fld j) o) j' mk L v := by
  obtain ⟨h1, ⟨kvs, h2, h3⟩, h4, h5⟩ := h
  refine ⟨h1, ⟨kvs, ?_, h3⟩, fun e x hx => ?_, fun e he => ?_⟩
  · rw [setC_ne (by intro z; cases z; exact hj rfl)]; exact h2
  · obtain ⟨vs, k1, k2⟩ := h4 e x hx
    exact ⟨vs, by rw [setC_ne (by intro z; cases z)]; exact k1, k2⟩
  · rw [setC_ne (by intro z; cases z)]; exact h5 e he
theorem fldOk.put {j j' : Nat} {f : NF} {v : V} {o : Option HO} (h : fldOk M F adr cont j' f v) (hj : j' ≠ j) : fldOk M F adr (setC cont (.fld j) o) j' f v := by
  cases f with
  | d x => exact h
  | dk ks ds =>
    obtain ⟨h1, kvs, h2, h3, h4⟩ := h
    exact ⟨h1, kvs, by rw [setC_ne (by intro z; cases z; exact hj rfl)]; exact h2, h3, h4⟩
  | rk L => exact rowsOk.put h hj
  | rt L => exact rowsOk.put h hj
theorem getElem?_set_cases {α : Type} {l : List α} {i j : Nat} {x y : α} (h : (l.set i x)[j]? = some y) : (i = j ∧ x = y) ∨ (i ≠ j ∧ l[j]? = some y) := by
  rcases getElem?_set_some h with ⟨h1, h2, _⟩ | h
  · exact .inl ⟨h1, h2⟩
  · exact .inr h
theorem NK.putD (k : NK c i0 ir F H σ s adr cont C dx fvs) {j : Nat} {ks : List Key} {ds : List D} {kk : Key} {d : D} {v : V} (hj : s.fs[j]? = some (.dk ks ds)) (hd : rep M F d v) :
    ∃ kvs : List (Key × V), H (adr (.fld j)) = some (.dK kvs) ∧ kvs.length = ds.length ∧ NK c i0 ir F (upd H (adr (.fld j)) (.dK (putK kvs kk v))) σ { s with fs := s.fs.set j (.dk (TS.putD ks ds kk d).1 (TS.putD ks ds kk d).2) } adr (setC cont (.fld j) (some (.dK (putK kvs kk v)))) C dx fvs := by
  have hlt : j < s.fs.length := (List.getElem?_eq_some_iff.mp hj).1
  obtain ⟨p, hp⟩ : ∃ p, fvs[j]? = some p := ⟨fvs[j]'(by rw [k.ln]; exact hlt), List.getElem?_eq_getElem _⟩
  obtain ⟨h1, kvs, h2, h3, h4⟩ := k.fl j _ p hj hp
  obtain ⟨q1, q2⟩ := putD_v hd kk h4
  rw [h3] at q1 q2
  refine ⟨kvs, k.cel.at_ _ _ h2, by have := reps_length h4; simpa using this, k.bas.put k.cel h2, k.cel.put h2, k.sl, k.G, ?_, ?_, ?_, fun j' f p' e1 e2 => ?_, fun j' hj' => ?_, k.i0, k.rn, k.al⟩
  · rw [setC_ne (by intro z; cases z)]; exact k.sf
  · simp only [List.length_set]; exact k.nm
  · simp only [List.length_set]; exact k.ln
  · rcases getElem?_set_cases e1 with ⟨z, z2⟩ | ⟨z, e1⟩
    · subst z; subst z2
      rw [hp] at e2; cases e2
      exact ⟨h1, _, setC_same _ _ _, q1, q2⟩
    · exact (k.fl j' f p' e1 e2).put (Ne.symm z)
  · simp only [List.length_set] at hj'
    obtain ⟨n1, n2⟩ := k.no j' hj'
    refine ⟨?_, fun e => ?_⟩
    · rw [setC_ne (by intro z; cases z; omega)]; exact n1
    · rw [setC_ne (by intro z; cases z)]; exact n2 e
theorem rowsOk.putRow {κ : Type} {mk : List (κ × V) → HO} {j j' e : Nat} {L : List (κ × List D)} {v : V} {o : Option HO} (h : rowsOk M F adr cont j' mk L v) (hj : j' ≠ j) : rowsOk M F adr (setC cont (.row j e) o) j' mk L v := by
  obtain ⟨h1, ⟨kvs, h2, h3⟩, h4, h5⟩ := h
  refine ⟨h1, ⟨kvs, ?_, h3⟩, fun e' x hx => ?_, fun e' he => ?_⟩
  · rw [setC_ne (by intro z; cases z)]; exact h2
  · obtain ⟨vs, k1, k2⟩ := h4 e' x hx
    exact ⟨vs, by rw [setC_ne (by intro z; cases z; exact hj rfl)]; exact k1, k2⟩
  · rw [setC_ne (by intro z; cases z; exact hj rfl)]; exact h5 e' he
theorem fldOk.putRow {j j' e : Nat} {f : NF} {v : V} {o : Option HO} (h : fldOk M F adr cont j' f v) (hj : j' ≠ j) : fldOk M F adr (setC cont (.row j e) o) j' f v := by
  cases f with
  | d x => exact h
  | dk ks ds =>
    obtain ⟨h1, kvs, h2, h3, h4⟩ := h
    exact ⟨h1, kvs, by rw [setC_ne (by intro z; cases z)]; exact h2, h3, h4⟩
  | rk L => exact rowsOk.putRow h hj
  | rt L => exact rowsOk.putRow h hj
theorem rowsOk.app {κ : Type} {mk : List (κ × V) → HO} {j e : Nat} {L : List (κ × List D)} {v : V} {x : κ × List D} {ds : List D} {vs : List V} (h : rowsOk M F adr cont j mk L v) (hx : L[e]? = some x) (r : reps M F ds vs) : rowsOk M F adr (setC cont (.row j e) (some (.lst vs))) j mk (L.set e (x.1, ds)) v := by
  obtain ⟨h1, ⟨kvs, h2, h3, h6⟩, h4, h5⟩ := h
  have hl : e < L.length := (List.getElem?_eq_some_iff.mp hx).1
  refine ⟨h1, ⟨kvs, ?_, ?_, h6⟩, fun e' y hy => ?_, fun e' he => ?_⟩
  · rw [setC_ne (by intro z; cases z)]; exact h2
  · rw [h3, List.map_set]
    apply List.ext_getElem?
    intro i
    by_cases z : e = i
    · subst z
      rw [List.getElem?_set_self (by simpa using hl), List.getElem?_map, hx]; rfl
    · rw [List.getElem?_set_ne z]
  · rcases getElem?_set_cases hy with ⟨z, z2⟩ | ⟨z, hy⟩
    · subst z; subst z2
      exact ⟨vs, setC_same _ _ _, r⟩
    · obtain ⟨ws, k1, k2⟩ := h4 e' y hy
      exact ⟨ws, by rw [setC_ne (by intro q; cases q; exact z rfl)]; exact k1, k2⟩
  · simp only [List.length_set] at he
    rw [setC_ne (by intro q; cases q; omega)]; exact h5 e' he
def rowOf (s : NS) : Option (List D) := s.al.bind fun p => (s.fs[p.1]?).bind fun f => match f with
  | .rk L => (L[p.2]?).map (·.2)
  | .rt L => (L[p.2]?).map (·.2)
  | _ => none
def setRow (s : NS) (ds : List D) : Option NS := s.al.bind fun p => (s.fs[p.1]?).bind fun f => match f with
  | .rk L => (L[p.2]?).map fun x => { s with fs := s.fs.set p.1 (.rk (L.set p.2 (x.1, ds))) }
  | .rt L => (L[p.2]?).map fun x => { s with fs := s.fs.set p.1 (.rt (L.set p.2 (x.1, ds))) }
  | _ => none
theorem NK.row (k : NK c i0 ir F H σ s adr cont C dx fvs) {row : List D} (h : rowOf s = some row) : ∃ j e vs, s.al = some (j, e) ∧ σ[ir]? = some (some (.ref (adr (.row j e)))) ∧ (s.δ[ir]?).join = none ∧ cont (.row j e) = some (.lst vs) ∧ reps M F row vs := by
  obtain ⟨⟨j, e⟩, ha, h⟩ := Option.bind_eq_some_iff.mp h
  obtain ⟨f, hf, h⟩ := Option.bind_eq_some_iff.mp h
  have a1 := k.al j e ha
  have a2 := k.rn
  have hlt : j < s.fs.length := (List.getElem?_eq_some_iff.mp hf).1
  obtain ⟨p, hp⟩ : ∃ p, fvs[j]? = some p := ⟨fvs[j]'(by rw [k.ln]; exact hlt), List.getElem?_eq_getElem _⟩
  have hk := k.fl j f p hf hp
  cases f with
  | d x => cases h
  | dk ks ds => cases h
  | rk L =>
    obtain ⟨x, hx, rfl⟩ := Option.map_eq_some_iff.mp h
    obtain ⟨vs, k1, k2⟩ := hk.2.2.1 e x hx
    exact ⟨j, e, vs, ha, a1, a2, k1, k2⟩
  | rt L =>
    obtain ⟨x, hx, rfl⟩ := Option.map_eq_some_iff.mp h
    obtain ⟨vs, k1, k2⟩ := hk.2.2.1 e x hx
    exact ⟨j, e, vs, ha, a1, a2, k1, k2⟩
theorem NK.setRow (k : NK c i0 ir F H σ s adr cont C dx fvs) {j e : Nat} (ha : s.al = some (j, e)) {ds : List D} {vs : List V} (r : reps M F ds vs) {s' : NS} (h : TS.setRow s ds = some s') : NK c i0 ir F (upd H (adr (.row j e)) (.lst vs)) σ s' adr (setC cont (.row j e) (some (.lst vs))) C dx fvs := by
  unfold TS.setRow at h
  rw [ha, Option.bind_some] at h
  obtain ⟨f, hf, h⟩ := Option.bind_eq_some_iff.mp h
  have hlt : j < s.fs.length := (List.getElem?_eq_some_iff.mp hf).1
  obtain ⟨p, hp⟩ : ∃ p, fvs[j]? = some p := ⟨fvs[j]'(by rw [k.ln]; exact hlt), List.getElem?_eq_getElem _⟩
  have hk := k.fl j f p hf hp
  have go : ∀ (f' : NF) (o : HO), cont (.row j e) = some o → fldOk M F adr (setC cont (.row j e) (some (.lst vs))) j f' p.2 → NK c i0 ir F (upd H (adr (.row j e)) (.lst vs)) σ { s with fs := s.fs.set j f' } adr (setC cont (.row j e) (some (.lst vs))) C dx fvs := fun f' o ho hf' => by
    refine ⟨k.bas.put k.cel ho, k.cel.put ho, k.sl, k.G, ?_, ?_, ?_, fun j' f p' e1 e2 => ?_, fun j' hj' => ?_, k.i0, k.rn, k.al⟩
    · rw [setC_ne (by intro z; cases z)]; exact k.sf
    · simp only [List.length_set]; exact k.nm
    · simp only [List.length_set]; exact k.ln
    · rcases getElem?_set_cases e1 with ⟨z, z2⟩ | ⟨z, e1⟩
      · subst z; subst z2
        rw [hp] at e2; cases e2
        exact hf'
      · exact (k.fl j' f p' e1 e2).putRow (Ne.symm z)
    · simp only [List.length_set] at hj'
      obtain ⟨n1, n2⟩ := k.no j' hj'
      refine ⟨?_, fun e => ?_⟩
      · rw [setC_ne (by intro z; cases z)]; exact n1
      · rw [setC_ne (by intro z; cases z; omega)]; exact n2 e
  cases f with
  | d x => cases h
  | dk ks ds => cases h
  | rk L =>
    obtain ⟨x, hx, rfl⟩ := Option.map_eq_some_iff.mp h
    obtain ⟨ws, k1, k2⟩ := hk.2.2.1 e x hx
    have := go (.rk (L.set e (x.1, ds))) _ k1 (rowsOk.app (e := e) hk hx r)
    rw [ha] at this
    exact this
  | rt L =>
    obtain ⟨x, hx, rfl⟩ := Option.map_eq_some_iff.mp h
    obtain ⟨ws, k1, k2⟩ := hk.2.2.1 e x hx
    have := go (.rt (L.set e (x.1, ds))) _ k1 (rowsOk.app (e := e) hk hx r)
    rw [ha] at this
    exact this
end
end
end TS

namespace TS
open PySem L2
noncomputable section
abbrev GN := NS → Option NS
def DN (M : Gm) (W : WX) (X : Cx) (i0 ir : Nat) (ss : List Stmt) (g : GN) : Prop := ∃ t, PSs X ss t ∧ ∀ (c : Cn M) F H σ s s' E, NOk c i0 ir F H σ s → g s = some s' → (∀ F' H' σ', Same F F' → NOk c i0 ir F' H' σ' s' → E.nx σ' H') → t E σ H
def DN1 (M : Gm) (W : WX) (X : Cx) (i0 ir : Nat) (st : Stmt) (g : GN) : Prop := ∃ t, PS X st t ∧ ∀ (c : Cn M) F H σ s s' E, NOk c i0 ir F H σ s → g s = some s' → (∀ F' H' σ', Same F F' → NOk c i0 ir F' H' σ' s' → E.nx σ' H') → t E σ H
def noneAt (ir : Nat) (δ : Sl) : Bool := match δ[ir]? with
  | some (some _) => false
  | _ => true
theorem noneAt_eq {ir : Nat} {δ : Sl} (h : noneAt ir δ = true) : (δ[ir]?).join = none := by
  unfold noneAt at h
  cases e : δ[ir]? with
  | none => rfl
  | some x => cases x with
    | none => rfl
    | some r => rw [e] at h; cases h
def runI (ir : Nat) (f : FD) (δ : Sl) : Option (D × Sl) := match f δ with
  | .ok d δ' => if immS δ' && noneAt ir δ' then some (d, δ') else none
  | _ => none
theorem runI_eq {ir : Nat} {f : FD} {δ δ' : Sl} {d : D} (h : runI ir f δ = some (d, δ')) : f δ = .ok d δ' ∧ immS δ' = true ∧ (δ'[ir]?).join = none := by
  unfold runI at h
  split at h
  · rename_i d2 δ2 e
    split at h
    · rename_i hi
      rw [Bool.and_eq_true] at hi
      cases h; exact ⟨e, hi.1, noneAt_eq hi.2⟩
    · cases h
  · cases h
def nSeq (g h : GN) : GN := fun s => (g s).bind h
section
variable {M : Gm} {W : WX} {X : Cx} {i0 ir : Nat}
theorem dn_cons {st : Stmt} {ss : List Stmt} {g h : GN} (a : DN1 M W X i0 ir st g) (b : DN M W X i0 ir ss h) : DN M W X i0 ir (st :: ss) (nSeq g h) := by
  obtain ⟨t, p, a⟩ := a
  obtain ⟨t', p', b⟩ := b
  refine ⟨_, pss_cons p p', fun c F H σ s s' E k e q => ?_⟩
  obtain ⟨s1, e1, e2⟩ := Option.bind_eq_some_iff.mp e
  exact a c F H σ s s1 _ k e1 fun F1 H1 σ1 g1 k1 => b c F1 H1 σ1 s1 s' E k1 e2 fun F2 H2 σ2 g2 k2 => q F2 H2 σ2 (g1.trans g2) k2
theorem dn_one {st : Stmt} {g : GN} (a : DN1 M W X i0 ir st g) : DN M W X i0 ir [st] g := by
  obtain ⟨t, p, a⟩ := a
  exact ⟨_, pss_one p, a⟩
def nPut (ix : Nat → Option Nat) (kd d : D) (s : NS) : Option NS := (ix s.n).bind fun j => (keyOf kd).bind fun k => (s.fs[j]?).bind fun f => match f with
  | .dk ks ds => if ds.length < 16777216 then some { s with fs := s.fs.set j (.dk (putD ks ds k d).1 (putD ks ds k d).2) } else none
  | _ => none
def nStore (ir : Nat) (ix : Nat → Option Nat) (fv fk : FD) : GN := fun s => (runI ir fv s.δ).bind fun p => (runI ir fk p.2).bind fun q => nPut ix q.1 p.1 { s with δ := q.2 }
theorem fvs_look {s : NS} {adr : Adr} {cont : Con} {C dx : Addr} {fvs : List (Str × V)} {c : Cn M} {F H : Hp} {σ : St} {f : Str} {ix : Nat → Option Nat} (T : FldT M f ix) (k : NK c i0 ir F H σ s adr cont C dx fvs) {j : Nat} {nf : NF} (hj : ix s.n = some j) (hf : s.fs[j]? = some nf) : ∃ p, fvs[j]? = some p ∧ fvs.lookup f = some p.2 ∧ fldOk M F adr cont j nf p.2 := by
  obtain ⟨_, k1, k2⟩ := T s.n j hj
  have hlt : j < s.fs.length := (List.getElem?_eq_some_iff.mp hf).1
  obtain ⟨p, hp⟩ : ∃ p, fvs[j]? = some p := ⟨fvs[j]'(by rw [k.ln]; exact hlt), List.getElem?_eq_getElem _⟩
  refine ⟨p, hp, lookup_at (j := j) ?_ ?_ (by rw [List.getElem?_map, hp]; rfl), k.fl j nf p hf hp⟩
  · rw [k.nm, List.getElem?_take_of_lt hlt]; exact k1
  · rw [k.nm, List.take_take, Nat.min_eq_left (Nat.le_of_lt hlt)]; exact k2
theorem nPut_inv {ix : Nat → Option Nat} {kd d : D} {s s' : NS} (h : nPut ix kd d s = some s') : ∃ j k ks ds, ix s.n = some j ∧ keyOf kd = some k ∧ s.fs[j]? = some (.dk ks ds) ∧ ds.length < 16777216 ∧ s' = { s with fs := s.fs.set j (.dk (putD ks ds k d).1 (putD ks ds k d).2) } := by
  unfold nPut at h
  obtain ⟨j, h1, h⟩ := Option.bind_eq_some_iff.mp h
  obtain ⟨k, h2, h⟩ := Option.bind_eq_some_iff.mp h
  obtain ⟨f, h3, h⟩ := Option.bind_eq_some_iff.mp h
  cases f with
  | dk ks ds =>
    simp only at h
    split at h
    · rename_i hl; cases h; exact ⟨j, k, ks, ds, h1, h2, h3, hl, rfl⟩
    · cases h
  | d x => cases h
  | rk L => cases h
  | rt L => cases h
theorem put_end {c : Cn M} {F H : Hp} {σ : St} {s s' : NS} {ix : Nat → Option Nat} {kd d : D} {v kv : V} {N : St → Hp → Prop} (hk : NOk c i0 ir F H σ s) (rv : rep M F d v) (rk : rep M F kd kv) (e : nPut ix kd d s = some s') {a : Addr} (ha : ∃ adr cont C dx fvs j, NK c i0 ir F H σ s adr cont C dx fvs ∧ ix s.n = some j ∧ a = adr (.fld j))
    (q : ∀ H', NOk c i0 ir F H' σ s' → N σ H') : rSetD (.ref a) kv v H fun H' => N σ H' := by
  obtain ⟨j, k, ks, ds, h1, h2, h3, hl, rfl⟩ := nPut_inv e
  obtain ⟨adr, cont, C, dx, fvs, j', kk, hj', rfl⟩ := ha
  rw [h1] at hj'; cases hj'
  have ek := keyOf_v (M := M) (H := H) (.inl rk) h2
  subst ek
  obtain ⟨kvs, l1, l2, l3⟩ := kk.putD (kk := k) h3 rv
  exact ⟨_, _, rfl, DPut.k l1 (by rw [l2, sizeLine_eq]; exact hl), q _ ⟨_, _, _, _, _, l3⟩⟩
theorem dn_store {o ie ve : Expr} {f : Str} {ix : Nat → Option Nat} {fv fk : FD} {pos apos spos : Pos} (T : FldT M f ix) (ho : PE X o (tVar i0)) (hv : DI M W X ve fv) (hk : DI M W X ie fk) (hu : X.A.units + 1 < cLine) (hK : X.K = M.K := by rfl)
    (hb : attributeBase o f X.env (eval o X.env) = eval o X.env := by rfl)
    (ha : ∀ v, assign (.Subscript (.Attribute o f apos) ie spos) X.env v = (do
      let ov ← holding [v] (eval (.Attribute o f apos) X.env)
      let iv ← holding [v, ov] (eval ie X.env)
      standAt spos
      holding [v, ov, iv] (setItem ov iv v)
      release [v, ov, iv] []) := by intro _; rfl)
    (hs : swapsWithSole [.Subscript (.Attribute o f apos) ie spos] ve pos.line X.env = pure false := by rfl) (hw : swappedStores [.Subscript (.Attribute o f apos) ie spos] ve X.env = pure none := by rfl)
    (h1 : (assignEach [.Subscript (.Attribute o f apos) ie spos] X.env).map (·.2) = [assign (.Subscript (.Attribute o f apos) ie spos) X.env] := by rfl) :
    DN1 M W X i0 ir (.Assign [.Subscript (.Attribute o f apos) ie spos] ve pos) (nStore ir ix fv fk) := by
  obtain ⟨tv, pv, hv⟩ := di_frm hv
  obtain ⟨tk, pk, hk⟩ := di_frm hk
  refine ⟨_, ps_asg pv (pg_sub (pe_fld ho hb) pk (set_dict hu) ha) hs hw h1, fun c F H σ s s' E ⟨adr, cont, C, dx, fvs, k⟩ e q => ?_⟩
  obtain ⟨⟨d, δ1⟩, e1, e⟩ := Option.bind_eq_some_iff.mp e
  obtain ⟨⟨kd, δ2⟩, e2, e⟩ := Option.bind_eq_some_iff.mp e
  obtain ⟨f1, i1, r1⟩ := runI_eq e1
  obtain ⟨f2, i2, r2⟩ := runI_eq e2
  refine hv F H σ s.δ d δ1 _ k.bas.same k.bas.tb k.sl f1 i1 fun v F1 H1 st1 sl1 rv => ?_
  obtain ⟨j, kx, ks, ds, n1, n2, n3, n4, n5⟩ := nPut_inv e
  have k1 : NK c i0 ir F1 H1 σ { s with δ := δ1 } adr cont C dx fvs := k.step st1 sl1 rfl rfl r1
  obtain ⟨p, hp, hlk, hfo⟩ := fvs_look T k1 (j := j) n1 n3
  obtain ⟨t1, t2⟩ := (T s.n j n1).1 C k.G
  refine ⟨_, k1.i0, _, C, dx, fvs, p.2, rfl, k1.cel.at_ _ _ k1.sf, by rw [hK]; exact t1, by rw [hK]; exact t2, hlk, ?_⟩
  obtain ⟨ev, _⟩ := hfo
  rw [ev]
  refine hk F1 H1 σ δ1 kd δ2 _ k1.bas.same k1.bas.tb k1.sl f2 i2 fun kv F2 H2 st2 sl2 rk => ?_
  have k2 : NK c i0 ir F2 H2 σ { s with δ := δ2 } adr cont C dx fvs := k1.step st2 sl2 rfl rfl r2
  exact put_end (N := E.nx) ⟨_, _, _, _, _, k2⟩ (rep_mono st2.grow _ _ rv) rk e ⟨adr, cont, C, dx, fvs, j, k2, n1, rfl⟩ fun H' hk' => q F2 H' σ (st1.grow.trans st2.grow) hk'
def nStoreR (ir : Nat) (ix : Nat → Option Nat) (fv fk : FD) : GN := fun s => (rowOf s).bind fun row => match fv (s.δ.set ir (some (.imm (.lst row)))) with
  | .ok d _ => if flatD d then (runI ir fk s.δ).bind fun q => nPut ix q.1 d { s with δ := q.2 } else none
  | _ => none
theorem SlI.setSame {F : Hp} {σ : St} {δ : Sl} (h : SlI (M := M) F σ δ) {i : Nat} {d : D} {v : V} (e : σ[i]? = some (some v)) (r : rep M F d v) : SlI (M := M) F σ (δ.set i (some (.imm d))) := by
  have := h.setI i r
  have e2 : σ.set i (some v) = σ := by
    apply List.ext_getElem?
    intro j
    by_cases hj : i = j
    · subst hj
      rw [List.getElem?_set_self (List.getElem?_eq_some_iff.mp e).1, e]
    · rw [List.getElem?_set_ne hj]
  rwa [e2] at this
theorem rep_flat2 {F F' : Hp} {d : D} {v : V} (hf : flatD d = true) (h : rep M F d v) : rep M F' d v := by
  cases d <;> simp [flatD] at hf <;> unfold rep at h ⊢ <;> exact h
theorem dn_storeR {o ie ve : Expr} {f : Str} {ix : Nat → Option Nat} {fv fk : FD} {pos apos spos : Pos} (T : FldT M f ix) (ho : PE X o (tVar i0)) (hv : DI M W X ve fv) (hk : DI M W X ie fk) (hu : X.A.units + 1 < cLine) (hK : X.K = M.K := by rfl)
    (hb : attributeBase o f X.env (eval o X.env) = eval o X.env := by rfl)
    (ha : ∀ v, assign (.Subscript (.Attribute o f apos) ie spos) X.env v = (do
      let ov ← holding [v] (eval (.Attribute o f apos) X.env)
      let iv ← holding [v, ov] (eval ie X.env)
      standAt spos
      holding [v, ov, iv] (setItem ov iv v)
      release [v, ov, iv] []) := by intro _; rfl)
    (hs : swapsWithSole [.Subscript (.Attribute o f apos) ie spos] ve pos.line X.env = pure false := by rfl) (hw : swappedStores [.Subscript (.Attribute o f apos) ie spos] ve X.env = pure none := by rfl)
    (h1 : (assignEach [.Subscript (.Attribute o f apos) ie spos] X.env).map (·.2) = [assign (.Subscript (.Attribute o f apos) ie spos) X.env] := by rfl) :
    DN1 M W X i0 ir (.Assign [.Subscript (.Attribute o f apos) ie spos] ve pos) (nStoreR ir ix fv fk) := by
  obtain ⟨tv, pv, hv⟩ := hv
  obtain ⟨tk, pk, hk⟩ := di_frm hk
  refine ⟨_, ps_asg pv (pg_sub (pe_fld ho hb) pk (set_dict hu) ha) hs hw h1, fun c F H σ s s' E ⟨adr, cont, C, dx, fvs, k⟩ e q => ?_⟩
  obtain ⟨row, e0, e⟩ := Option.bind_eq_some_iff.mp e
  split at e
  · rename_i d δ1 e1
    split at e
    · rename_i hfl
      obtain ⟨⟨kd, δ2⟩, e2, e⟩ := Option.bind_eq_some_iff.mp e
      obtain ⟨f2, i2, r2⟩ := runI_eq e2
      obtain ⟨jr, er, vs, al, a1, a2, c1, c2⟩ := k.row e0
      have hF : F (adr (.row jr er)) = none := k.cel.fr _ _ c1
      have hH := k.cel.at_ _ _ c1
      have g : Same F (upd F (adr (.row jr er)) (.lst vs)) := fun b o e => by rw [upd_ne (L2.ne_of_none e hF)]; exact e
      have sm : Same (upd F (adr (.row jr er)) (.lst vs)) H := fun b o e => by
        by_cases z : b = adr (.row jr er)
        · rw [z, upd_same] at e; cases e; rw [z]; exact hH
        · rw [upd_ne z] at e; exact k.bas.same b o e
      have sl : SlI (M := M) (upd F (adr (.row jr er)) (.lst vs)) σ (s.δ.set ir (some (.imm (.lst row)))) := (k.sl.mono g).setSame a1 (by unfold rep; exact ⟨_, vs, rfl, upd_same, reps_mono g _ _ c2⟩)
      refine hv (frm M _ H) _ H σ _ _ (sl.ok sm (k.bas.tb.frz hH rfl)) ?_
      rw [e1]
      intro v F1 H1 _ ok1 rv
      have rv0 : rep M F d v := rep_flat2 hfl rv
      have st0 := stp_back ok1
      have st1 : Stp M F H F H1 none := ⟨Same.refl _, fun _ _ _ _ e => e, st0.kept, fun b o e => st0.same b o (st0.grow b o (g b o e)), st0.tb.tab, k.bas.tb.fr, k.bas.tb.nt⟩
      obtain ⟨j, kx, ks, ds, n1, n2, n3, n4, n5⟩ := nPut_inv e
      have k1 : NK c i0 ir F H1 σ { s with δ := s.δ } adr cont C dx fvs := k.step st1 k.sl rfl rfl k.rn
      obtain ⟨p, hp, hlk, hfo⟩ := fvs_look T k1 (j := j) n1 n3
      obtain ⟨t1, t2⟩ := (T s.n j n1).1 C k.G
      refine ⟨_, k1.i0, _, C, dx, fvs, p.2, rfl, k1.cel.at_ _ _ k1.sf, by rw [hK]; exact t1, by rw [hK]; exact t2, hlk, ?_⟩
      obtain ⟨ev, _⟩ := hfo
      rw [ev]
      refine hk F H1 σ s.δ kd δ2 _ k1.bas.same k1.bas.tb k1.sl f2 i2 fun kv F2 H2 st2 sl2 rk => ?_
      have k2 : NK c i0 ir F2 H2 σ { s with δ := δ2 } adr cont C dx fvs := k1.step st2 sl2 rfl rfl r2
      exact put_end (N := E.nx) ⟨_, _, _, _, _, k2⟩ (rep_mono st2.grow _ _ rv0) rk e ⟨adr, cont, C, dx, fvs, j, k2, n1, rfl⟩ fun H' hk' => q F2 H' σ st2.grow hk'
    · cases e
  · cases e
def nApp (ir : Nat) (fe : FD) : GN := fun s => (runI ir fe s.δ).bind fun p => (rowOf s).bind fun row => if row.length < 16777216 then setRow { s with δ := p.2 } (row ++ [p.1]) else none
theorem dn_app {o e : Expr} {fe : FD} {pos apos cpos : Pos} (ho : PE X o (tVar ir)) (he : DI M W X e fe) (hK : X.K = M.K := by rfl)
    (hb : attributeBase o "append" X.env (eval o X.env) = eval o X.env := by rfl) (hfew : ((backTo cpos (starEach (e :: []) X.env)).all (fun x => !x.1) && (backToKw cpos (keywordEach [] X.env)).all (fun x => x.1.isSome) && decide ((e :: []).length + ([] : List Keyword).length + (if ([] : List Keyword).isEmpty then 0 else 1) < 30)) = true := by rfl) (hl : (apos.endLine == cpos.line) = true := by rfl)
    (hst : starEach (e :: []) X.env = (false, eval e X.env) :: starEach [] X.env := by rfl) (hpl : (backTo cpos (starEach [] X.env)).any (·.1) = false := by rfl) (hs : swapsWith (.Call (.Attribute o "append" apos) [e] [] cpos) none pos.line X.env = pure false := by rfl) :
    DN1 M W X i0 ir (.Expr (.Call (.Attribute o "append" apos) [e] [] cpos) pos) (nApp ir fe) := by
  obtain ⟨te, pe, he⟩ := di_frm he
  refine ⟨_, ps_expr (pe_bm PySem.F.plainAttrs_list PySem.F.slot_list_append PySem.F.type_list_append mt_append ho (pa_cons pe pa_nil hst) hb hfew hl hst hpl) hs, fun c F H σ s s' E ⟨adr, cont, C, dx, fvs, k⟩ e q => ?_⟩
  obtain ⟨⟨d, δ1⟩, e1, e⟩ := Option.bind_eq_some_iff.mp e
  obtain ⟨row, e0, e⟩ := Option.bind_eq_some_iff.mp e
  split at e
  · rename_i hlen
    obtain ⟨f1, i1, r1⟩ := runI_eq e1
    obtain ⟨jr, er, vs, al, a1, a2, c1, c2⟩ := k.row e0
    refine ⟨_, a1, .inl ⟨rfl, vs, SqL.of (k.cel.at_ _ _ c1)⟩, he F H σ s.δ d δ1 _ k.bas.same k.bas.tb k.sl f1 i1 fun v F1 H1 st1 sl1 rv => ?_⟩
    have k1 : NK c i0 ir F1 H1 σ { s with δ := δ1 } adr cont C dx fvs := k.step st1 sl1 rfl rfl r1
    refine ⟨_, vs, v, rfl, rfl, k1.cel.at_ _ _ c1, by rw [reps_length c2, sizeLine_eq]; exact hlen, ?_⟩
    exact q F1 _ σ st1.grow ⟨_, _, _, _, _, k1.setRow (s := { s with δ := δ1 }) al (reps_append (reps_mono st1.grow _ _ c2) (reps_cons rv reps_nil)) e⟩
  · cases e
end
end
end TS

namespace TS
open PySem L2
noncomputable section
section
variable {M : Gm} {W : WX} {X : Cx} {i0 ir : Nat} {c : Cn M} {F F' H H' : Hp} {σ σ' : St} {s : NS} {adr adr' : Adr} {cont cont' : Con} {C dx : Addr} {fvs : List (Str × V)}
theorem rowsOk.congr {κ : Type} {mk : List (κ × V) → HO} {j : Nat} {L : List (κ × List D)} {v : V} (h : rowsOk M F adr cont j mk L v) (h1 : adr' (.fld j) = adr (.fld j)) (h2 : ∀ e, adr' (.row j e) = adr (.row j e)) (h3 : cont' (.fld j) = cont (.fld j)) (h4 : ∀ e, cont' (.row j e) = cont (.row j e)) : rowsOk M F adr' cont' j mk L v := by
  obtain ⟨k1, ⟨kvs, k2, k3, k4⟩, k5, k6⟩ := h
  refine ⟨by rw [h1]; exact k1, ⟨kvs, by rw [h3]; exact k2, k3, fun e kv he => by rw [h2]; exact k4 e kv he⟩, fun e x hx => ?_, fun e he => by rw [h4]; exact k6 e he⟩
  obtain ⟨vs, l1, l2⟩ := k5 e x hx
  exact ⟨vs, by rw [h4]; exact l1, l2⟩
theorem fldOk.congr {j : Nat} {f : NF} {v : V} (h : fldOk M F adr cont j f v) (h1 : adr' (.fld j) = adr (.fld j)) (h2 : ∀ e, adr' (.row j e) = adr (.row j e)) (h3 : cont' (.fld j) = cont (.fld j)) (h4 : ∀ e, cont' (.row j e) = cont (.row j e)) : fldOk M F adr' cont' j f v := by
  cases f with
  | d x => exact h
  | dk ks ds =>
    obtain ⟨k1, kvs, k2, k3, k4⟩ := h
    exact ⟨by rw [h1]; exact k1, kvs, by rw [h3]; exact k2, k3, k4⟩
  | rk L => exact rowsOk.congr h h1 h2 h3 h4
  | rt L => exact rowsOk.congr h h1 h2 h3 h4
def nNew (ix : Nat → Option Nat) (f0 : NF) : GN := fun s => (ix s.n).bind fun j => if j = s.fs.length then some { s with fs := s.fs ++ [f0] } else none
theorem putF_new2 {f : Str} {v : V} : ∀ {fs : List (Str × V)}, f ∉ fs.map (·.1) → putF f v fs = fs ++ [(f, v)]
  | [], _ => rfl
  | (g, x) :: r, h => by
    have h1 : g ≠ f := fun z => h (by simp [z])
    have h2 : f ∉ r.map (·.1) := fun z => h (by simp at z ⊢; exact .inr z)
    show (if g = f then (g, v) :: r else (g, x) :: putF f v r) = _
    rw [if_neg h1, putF_new2 h2]; rfl
theorem new_core {f : Str} {ix : Nat → Option Nat} (T : FldT M f ix) (k : NK c i0 ir F H σ s adr cont C dx fvs) {j : Nat} (hj : ix s.n = some j) (hl : j = s.fs.length) {p : Addr} (hp : H p = none) {o : HO} {f0 : NF} (h0 : ∀ (adr : Adr) (cont : Con), adr (.fld j) = p → cont (.fld j) = some o → (∀ e, cont (.row j e) = none) → fldOk M F adr cont j f0 (.ref p)) (hno : NT o := by first | rfl | assumption) :
    H (adr .self) = some (.ins C dx fvs) ∧ (upd H p o) (adr .self) = some (.ins C dx fvs) ∧ NOk c i0 ir F (upd (upd H p o) (adr .self) (.ins C dx (putF f (.ref p) fvs))) σ { s with fs := s.fs ++ [f0] } := by
  subst hl
  obtain ⟨_, t1, t2⟩ := T s.n _ hj
  have hn : f ∉ fvs.map (·.1) := by rw [k.nm]; exact t2
  obtain ⟨n1, n2⟩ := k.no s.fs.length (Nat.le_refl _)
  have hs := k.cel.at_ _ _ k.sf
  have c1 := Cells.new (o := o) k.bas k.cel (p := .fld s.fs.length) (by intro z; cases z) n1 hp hno
  have b1 : NBas c F (upd H p o) := k.bas.stp (stp_alloc k.bas.same k.bas.tb hp)
  have sf1 : setC cont (.fld s.fs.length) (some o) .self = some (.ins C dx fvs) := by rw [setC_ne (by intro z; cases z)]; exact k.sf
  have ea : setC adr (.fld s.fs.length) p .self = adr .self := setC_ne (by intro z; cases z)
  have c2 := c1.put (o' := .ins C dx (putF f (.ref p) fvs)) sf1
  have b2 := b1.put c1 (o' := .ins C dx (putF f (.ref p) fvs)) sf1
  rw [ea] at c2 b2
  refine ⟨hs, by rw [upd_ne (L2.ne_of_none hs hp)]; exact hs, setC adr (.fld s.fs.length) p, _, C, dx, fvs ++ [(f, .ref p)], b2, c2, k.sl, k.G, ?_, ?_, ?_, fun j f' q e1 e2 => ?_, fun j hj' => ?_, ?_, k.rn, fun j e he => ?_⟩
  · rw [setC_same, putF_new2 hn]
  · show (fvs ++ [(f, V.ref p)]).map (·.1) = (M.nm s.n).take (s.fs ++ [f0]).length
    rw [List.length_append, List.length_singleton, List.map_append, k.nm, List.take_add_one, t1]; rfl
  · simp [k.ln]
  · by_cases hlt : j < s.fs.length
    · rw [List.getElem?_append_left hlt] at e1
      rw [List.getElem?_append_left (by rw [k.ln]; exact hlt)] at e2
      have ne : j ≠ s.fs.length := by omega
      refine (k.fl j f' q e1 e2).congr (setC_ne (by intro z; cases z; exact ne rfl)) (fun e => setC_ne (by intro z; cases z)) ?_ (fun e => ?_)
      · rw [setC_ne (by intro z; cases z), setC_ne (by intro z; cases z; exact ne rfl)]
      · rw [setC_ne (by intro z; cases z), setC_ne (by intro z; cases z)]
    · have hj2 : j = s.fs.length := by
        have := (List.getElem?_eq_some_iff.mp e1).1
        rw [List.length_append, List.length_singleton] at this
        omega
      subst hj2
      rw [List.getElem?_append_right (Nat.le_refl _)] at e1
      rw [List.getElem?_append_right (by rw [k.ln]; exact Nat.le_refl _)] at e2
      simp at e1
      simp [k.ln] at e2
      subst e1; subst e2
      exact h0 _ _ (setC_same _ _ _) (by rw [setC_ne (by intro z; cases z)]; exact setC_same _ _ _) (fun e => by rw [setC_ne (by intro z; cases z), setC_ne (by intro z; cases z)]; exact n2 e)
  · simp only [List.length_append, List.length_singleton] at hj'
    obtain ⟨m1, m2⟩ := k.no j (by omega)
    refine ⟨?_, fun e => ?_⟩
    · rw [setC_ne (by intro z; cases z), setC_ne (by intro z; cases z; omega)]; exact m1
    · rw [setC_ne (by intro z; cases z), setC_ne (by intro z; cases z)]; exact m2 e
  · rw [ea]; exact k.i0
  · rw [setC_ne (by intro z; cases z)]; exact k.al j e he
def newOk (o : HO) (f0 : NF) : Prop := NT o ∧ ∀ (M : Gm) (F : Hp) (adr : Adr) (cont : Con) (j : Nat), cont (.fld j) = some o → (∀ e, cont (.row j e) = none) → fldOk M F adr cont j f0 (.ref (adr (.fld j)))
theorem newOk_dk : newOk (.dK []) (.dk [] []) := ⟨rfl, fun M F adr cont j h _ => ⟨rfl, [], h, rfl, by simp [reps]⟩⟩
theorem newOk_rk : newOk (.dK []) (.rk []) := ⟨rfl, fun M F adr cont j h h2 => ⟨rfl, ⟨[], h, rfl, fun e kv he => by simp at he⟩, fun e x hx => by simp at hx, fun e _ => h2 e⟩⟩
theorem newOk_rt : newOk (.dT []) (.rt []) := ⟨rfl, fun M F adr cont j h h2 => ⟨rfl, ⟨[], h, rfl, fun e kv he => by simp at he⟩, fun e x hx => by simp at hx, fun e _ => h2 e⟩⟩
theorem dn_new {o e : Expr} {f : Str} {ix : Nat → Option Nat} {pos pos' : Pos} {ho : HO} {f0 : NF} {te : TE} (hte : PE X e te) (hnew : ∀ σ H Q, (∀ p, H p = none → Q (.ref p) (upd H p ho)) → te σ H Q) (hok : newOk ho f0) (T : FldT M f ix) (hlen : ∀ n, (M.nm n).length < 1000) (hov : PE X o (tVar i0)) (hK : X.K = M.K := by rfl) (hs : swapsWith e (some (.Attribute o f pos')) pos.line X.env = pure false := by rfl) :
    DN1 M W X i0 ir (.Assign [.Attribute o f pos'] e pos) (nNew ix f0) := by
  refine ⟨_, ps_fld hov hte hs, fun c F H σ s s' E ⟨adr, cont, C, dx, fvs, k⟩ e q => hnew σ H _ fun p hp => ?_⟩
  obtain ⟨j, hj, e⟩ := Option.bind_eq_some_iff.mp e
  split at e
  · rename_i hl
    cases e
    obtain ⟨h1, h2, h3⟩ := new_core T k hj hl hp (fun adr cont e1 e2 e3 => by rw [← e1]; exact hok.2 M F adr cont j e2 e3) hok.1
    obtain ⟨t1, t2⟩ := (T s.n j hj).1 C k.G
    refine ⟨_, k.i0, _, C, dx, fvs, rfl, h2, by rw [hK]; exact t1, by rw [hK]; exact t2, ?_, q F _ σ (Same.refl _) h3⟩
    have := congrArg List.length k.nm
    rw [List.length_map, List.length_take] at this
    have := hlen s.n
    omega
  · cases e
theorem val_idx {κ : Type} [DecidableEq κ] : ∀ {kvs : List (κ × V)} {L : List (κ × List D)} (k : κ), kvs.map (·.1) = L.map (·.1) → (∀ e, L.findIdx? (fun x => decide (x.1 = k)) = some e → ∃ kv, kvs[e]? = some kv ∧ valV kvs k = some kv.2 ∧ e < L.length) ∧ (L.findIdx? (fun x => decide (x.1 = k)) = none → valV kvs k = none ∧ ∀ v, putK kvs k v = kvs ++ [(k, v)])
  | [], [], k, _ => ⟨fun e h => by simp at h, fun _ => ⟨rfl, fun v => rfl⟩⟩
  | [], x :: L, k, h => by simp at h
  | p :: kvs, [], k, h => by simp at h
  | p :: kvs, x :: L, k, h => by
    simp only [List.map_cons, List.cons.injEq] at h
    obtain ⟨ih1, ih2⟩ := val_idx k h.2
    by_cases z : x.1 = k
    · have z' : p.1 = k := h.1.trans z
      constructor
      · intro e he
        simp [List.findIdx?_cons, z] at he
        subst he
        exact ⟨p, rfl, by simp [valV, List.find?_cons, z'], by simp⟩
      · intro he
        simp [List.findIdx?_cons, z] at he
    · have z' : ¬ p.1 = k := fun q => z (h.1.symm.trans q)
      constructor
      · intro e he
        simp only [List.findIdx?_cons, decide_eq_false z] at he
        simp only [Bool.false_eq_true, if_false, Option.map_eq_some_iff] at he
        obtain ⟨e', he', rfl⟩ := he
        obtain ⟨kv, k1, k2, k3⟩ := ih1 e' he'
        exact ⟨kv, by simpa using k1, by unfold valV at k2 ⊢; simp only [List.find?_cons, decide_eq_false z']; exact k2, by simp; omega⟩
      · intro he
        simp only [List.findIdx?_cons, decide_eq_false z] at he
        simp only [Bool.false_eq_true, if_false, Option.map_eq_none_iff] at he
        obtain ⟨k1, k2⟩ := ih2 he
        refine ⟨by unfold valV at k1 ⊢; simp only [List.find?_cons, decide_eq_false z']; exact k1, fun v => ?_⟩
        have k3 := k2 v
        unfold putK at k3 ⊢
        have hany : (kvs.any fun kv => decide (kv.1 = k)) = false := by
          cases q : kvs.any fun kv => decide (kv.1 = k) with
          | false => rfl
          | true =>
            rw [q, if_pos rfl] at k3
            have := congrArg List.length k3
            simp at this
        rw [List.any_cons, decide_eq_false z', hany]
        rfl
theorem SlI.setNone {δ : Sl} (h : SlI (M := M) F σ δ) {i : Nat} {x : Option V} (e : (δ[i]?).join = none) : SlI (M := M) F (σ.set i x) δ := ⟨by simp [h.len], fun j r e' => by
  have hn : i ≠ j := fun z => by rw [z, e'] at e; cases e
  rw [List.getElem?_set_ne hn]
  exact h.at_ j r e'⟩
def nSetd {κ : Type} [DecidableEq κ] (ir : Nat) (ix : Nat → Option Nat) (fk : FD) (key : D → Option κ) (un : NF → Option (List (κ × List D))) (mkf : List (κ × List D) → NF) : GN := fun s => (runI ir fk s.δ).bind fun p => (ix s.n).bind fun j => (key p.1).bind fun k => (s.fs[j]?).bind fun f => (un f).bind fun L => if L.length < 16777216 ∧ ir < p.2.length then (match L.findIdx? (fun x => decide (x.1 = k)) with
  | some e => some { s with δ := p.2, al := some (j, e) }
  | none => some { s with δ := p.2, fs := s.fs.set j (mkf (L ++ [(k, [])])), al := some (j, L.length) }) else none
theorem rowsOk.grow {κ : Type} {mk : List (κ × V) → HO} {j : Nat} {L : List (κ × List D)} {v : V} {k : κ} {p : Addr} {kvs : List (κ × V)} (h : rowsOk M F adr cont j mk L v) (hm : ∀ a b, mk a = mk b → a = b) (hc : cont (.fld j) = some (mk kvs)) :
    rowsOk M F (setC adr (.row j L.length) p) (setC (setC cont (.row j L.length) (some (.lst []))) (.fld j) (some (mk (kvs ++ [(k, .ref p)])))) j mk (L ++ [(k, [])]) v := by
  obtain ⟨k1, ⟨kvs', k2, k3, k4⟩, k5, k6⟩ := h
  rw [hc] at k2
  have := hm _ _ (Option.some.inj k2)
  subst this
  have hll : kvs.length = L.length := by have := congrArg List.length k3; simpa using this
  refine ⟨by rw [setC_ne (by intro z; cases z)]; exact k1, ⟨_, setC_same _ _ _, by simp [k3], fun e kv he => ?_⟩, fun e x hx => ?_, fun e he => ?_⟩
  · by_cases hlt : e < L.length
    · rw [List.getElem?_append_left (by omega)] at he
      rw [setC_ne (by intro z; cases z; omega)]; exact k4 e kv he
    · have : e = L.length := by
        have := (List.getElem?_eq_some_iff.mp he).1
        simp at this; omega
      subst this
      rw [List.getElem?_append_right (by omega)] at he
      simp [hll] at he
      subst he
      rw [setC_same]
  · by_cases hlt : e < L.length
    · rw [List.getElem?_append_left hlt] at hx
      obtain ⟨vs, l1, l2⟩ := k5 e x hx
      exact ⟨vs, by rw [setC_ne (by intro z; cases z), setC_ne (by intro z; cases z; omega)]; exact l1, l2⟩
    · have : e = L.length := by
        have := (List.getElem?_eq_some_iff.mp hx).1
        simp at this; omega
      subst this
      rw [List.getElem?_append_right (Nat.le_refl _)] at hx
      simp at hx
      subst hx
      exact ⟨[], by rw [setC_ne (by intro z; cases z)]; exact setC_same _ _ _, by simp [reps]⟩
  · simp at he
    rw [setC_ne (by intro z; cases z), setC_ne (by intro z; cases z; omega)]
    exact k6 e (by omega)
theorem setd_found (k : NK c i0 ir F H σ s adr cont C dx fvs) (hlt0 : ir < s.δ.length) (hir : i0 ≠ ir) {j e : Nat} : NOk c i0 ir F H (σ.set ir (some (.ref (adr (.row j e))))) { s with al := some (j, e) } :=
  ⟨adr, cont, C, dx, fvs, k.bas, k.cel, k.sl.setNone k.rn, k.G, k.sf, k.nm, k.ln, k.fl, k.no, by rw [List.getElem?_set_ne (Ne.symm hir)]; exact k.i0, k.rn, fun j' e' h => by
    cases h
    exact List.getElem?_set_self (by rw [k.sl.len]; exact hlt0)⟩
theorem setd_new {κ : Type} [DecidableEq κ] {mk : List (κ × V) → HO} (hm : ∀ a b, mk a = mk b → a = b) (hmn : ∀ a, NT (mk a)) (k : NK c i0 ir F H σ s adr cont C dx fvs) (hlt0 : ir < s.δ.length) (hir : i0 ≠ ir) {j : Nat} {nf : NF} {pv : Str × V} {L : List (κ × List D)} {kk : κ} {p : Addr} {kvs : List (κ × V)} {mkf : List (κ × List D) → NF} (hj : s.fs[j]? = some nf) (hpv : fvs[j]? = some pv) (hr : rowsOk M F adr cont j mk L pv.2) (hc : cont (.fld j) = some (mk kvs)) (hp : H p = none)
    (hf : ∀ adr cont L v, rowsOk M F adr cont j mk L v → fldOk M F adr cont j (mkf L) v) : NOk c i0 ir F (upd (upd H p (.lst [])) (adr (.fld j)) (mk (kvs ++ [(kk, .ref p)]))) (σ.set ir (some (.ref p))) { s with fs := s.fs.set j (mkf (L ++ [(kk, [])])), al := some (j, L.length) } := by
  have n1 : cont (.row j L.length) = none := hr.2.2.2 _ (Nat.le_refl _)
  have c1 := Cells.new (o := .lst []) k.bas k.cel (p := .row j L.length) (by intro z; cases z) n1 hp
  have b1 : NBas c F (upd H p (.lst [])) := k.bas.stp (stp_alloc k.bas.same k.bas.tb hp)
  have hc1 : setC cont (.row j L.length) (some (.lst [])) (.fld j) = some (mk kvs) := by rw [setC_ne (by intro z; cases z)]; exact hc
  have ea : setC adr (.row j L.length) p (.fld j) = adr (.fld j) := setC_ne (by intro z; cases z)
  have c2 := c1.put (o' := mk (kvs ++ [(kk, .ref p)])) hc1 (hmn _)
  have b2 := b1.put c1 (o' := mk (kvs ++ [(kk, .ref p)])) hc1 (hmn _)
  rw [ea] at c2 b2
  have hlt : j < s.fs.length := (List.getElem?_eq_some_iff.mp hj).1
  refine ⟨_, _, C, dx, fvs, b2, c2, k.sl.setNone k.rn, k.G, ?_, ?_, ?_, fun j' f' q e1 e2 => ?_, fun j' hj' => ?_, ?_, k.rn, fun j' e he => ?_⟩
  · rw [setC_ne (by intro z; cases z), setC_ne (by intro z; cases z)]; exact k.sf
  · simp only [List.length_set]; exact k.nm
  · simp only [List.length_set]; exact k.ln
  · rcases getElem?_set_cases e1 with ⟨z, z2⟩ | ⟨z, e1⟩
    · subst z; subst z2
      rw [hpv] at e2; cases e2
      exact hf _ _ _ _ (rowsOk.grow hr hm hc)
    · refine (k.fl j' f' q e1 e2).congr (setC_ne (by intro z; cases z)) (fun e => setC_ne (by intro w; cases w; exact z rfl)) ?_ (fun e => ?_)
      · rw [setC_ne (by intro w; cases w; exact z rfl), setC_ne (by intro w; cases w)]
      · rw [setC_ne (by intro w; cases w), setC_ne (by intro w; cases w; exact z rfl)]
  · simp only [List.length_set] at hj'
    obtain ⟨m1, m2⟩ := k.no j' hj'
    refine ⟨?_, fun e => ?_⟩
    · rw [setC_ne (by intro z; cases z; omega), setC_ne (by intro z; cases z)]; exact m1
    · rw [setC_ne (by intro z; cases z), setC_ne (by intro z; cases z; omega)]; exact m2 e
  · rw [setC_ne (by intro z; cases z), List.getElem?_set_ne (Ne.symm hir)]; exact k.i0
  · cases he
    rw [setC_same]
    exact List.getElem?_set_self (by rw [k.sl.len]; exact hlt0)
end
end
end TS

namespace TS
open PySem L2
noncomputable section
def unK : NF → Option (List (Key × List D))
  | .rk L => some L
  | _ => none
def unT : NF → Option (List (List Key × List D))
  | .rt L => some L
  | _ => none
def keyT : D → Option (List Key)
  | .tup ds => keysOf ds
  | _ => none
abbrev nSetdK (ir : Nat) (ix : Nat → Option Nat) (fk : FD) : GN := nSetd ir ix fk keyOf unK NF.rk
abbrev nSetdT (ir : Nat) (ix : Nat → Option Nat) (fk : FD) : GN := nSetd ir ix fk keyT unT NF.rt
section
variable {M : Gm} {W : WX} {X : Cx} {i0 ir : Nat}
theorem nSetd_inv {κ : Type} [DecidableEq κ] {ix : Nat → Option Nat} {fk : FD} {key : D → Option κ} {un : NF → Option (List (κ × List D))} {mkf : List (κ × List D) → NF} {s s' : NS} (h : nSetd ir ix fk key un mkf s = some s') : ∃ kd δ' j k f L, runI ir fk s.δ = some (kd, δ') ∧ ix s.n = some j ∧ key kd = some k ∧ s.fs[j]? = some f ∧ un f = some L ∧ (L.length < 16777216 ∧ ir < δ'.length) ∧ ((∃ e, L.findIdx? (fun x => decide (x.1 = k)) = some e ∧ s' = { s with δ := δ', al := some (j, e) }) ∨ (L.findIdx? (fun x => decide (x.1 = k)) = none ∧ s' = { s with δ := δ', fs := s.fs.set j (mkf (L ++ [(k, [])])), al := some (j, L.length) })) := by
  unfold nSetd at h
  obtain ⟨⟨kd, δ'⟩, h1, h⟩ := Option.bind_eq_some_iff.mp h
  obtain ⟨j, h2, h⟩ := Option.bind_eq_some_iff.mp h
  obtain ⟨k, h3, h⟩ := Option.bind_eq_some_iff.mp h
  obtain ⟨f, h4, h⟩ := Option.bind_eq_some_iff.mp h
  obtain ⟨L, h5, h⟩ := Option.bind_eq_some_iff.mp h
  split at h
  · rename_i hl
    refine ⟨kd, δ', j, k, f, L, h1, h2, h3, h4, h5, hl, ?_⟩
    split at h
    · rename_i e he; cases h; exact .inl ⟨e, he, rfl⟩
    · rename_i he; cases h; exact .inr ⟨he, rfl⟩
  · cases h
theorem dn_setdK {o ke : Expr} {f : Str} {x : Str} {ix : Nat → Option Nat} {fk : FD} {pos npos apos bpos cpos lpos : Pos} (T : FldT M f ix) (hir : i0 ≠ ir) (hN : X.N.Nodup) (hi : X.N[ir]? = some x) (hx : Loc X.env.scope x) (ho : PE X o (tVar i0)) (hk : DI M W X ke fk) (hK : X.K = M.K := by rfl)
    (hb : attributeBase o f X.env (eval o X.env) = eval o X.env := by rfl) (m : M2 X (.Attribute o f apos) "setdefault" bpos ke (.List [] lpos) cpos := by exact ⟨rfl, rfl, rfl, rfl⟩)
    (hs : swapsWith (.Call (.Attribute (.Attribute o f apos) "setdefault" bpos) [ke, .List [] lpos] [] cpos) (some (.Name x npos)) pos.line X.env = pure false := by rfl) (hf : X.fn x = true ∨ X.env.scope.names.lookup x = some .local := by first | exact .inl rfl | exact .inr rfl | assumption) :
    DN1 M W X i0 ir (.Assign [.Name x npos] (.Call (.Attribute (.Attribute o f apos) "setdefault" bpos) [ke, .List [] lpos] [] cpos) pos) (nSetdK ir ix fk) := by
  obtain ⟨tk, pk, hk⟩ := di_frm hk
  refine ⟨_, ps_set hN hi hx (pe_dsetd (pe_fld ho hb) pk (pe_lst pa_nil) m) hs hf, fun c F H σ s s' E ⟨adr, cont, C, dx, fvs, k⟩ e q => ?_⟩
  obtain ⟨kd, δ', j, kk, nf, L, e1, e2, e3, e4, e5, e6, e7⟩ := nSetd_inv e
  obtain ⟨f1, i1, r1⟩ := runI_eq e1
  obtain ⟨p, hp, hlk, hfo⟩ := fvs_look T k (j := j) e2 e4
  obtain ⟨t1, t2⟩ := (T s.n j e2).1 C k.G
  cases nf with
  | d x => cases e5
  | dk ks ds => cases e5
  | rt L' => cases e5
  | rk L' =>
    cases e5
    have hfo' : rowsOk M F adr cont j HO.dK L p.2 := hfo
    obtain ⟨ev, ⟨kvs, c1, c2, c3⟩, _, _⟩ := hfo'
    refine ⟨_, k.i0, _, C, dx, fvs, p.2, rfl, k.cel.at_ _ _ k.sf, by rw [hK]; exact t1, by rw [hK]; exact t2, hlk, adr (.fld j), ev, .inl ⟨kvs, .inl (k.cel.at_ _ _ c1)⟩, ?_⟩
    refine hk F H σ s.δ kd δ' _ k.bas.same k.bas.tb k.sl f1 i1 fun kv F1 H1 st1 sl1 rk => ⟨Nat.zero_le _, fun pp hpp => ?_⟩
    have k1 : NK c i0 ir F1 H1 σ { s with δ := δ' } adr cont C dx fvs := k.step st1 sl1 rfl rfl r1
    have ek := keyOf_v (M := M) (H := H1) (.inl rk) e3
    have hfld := k1.cel.at_ _ _ c1
    have hll : kvs.length = L.length := by have := congrArg List.length c2; simpa using this
    obtain ⟨v1, v2⟩ := val_idx kk c2
    refine ⟨kvs, kk, by rw [upd_ne (L2.ne_of_none hfld hpp)]; exact hfld, ek, by rw [hll, sizeLine_eq]; exact e6.1, fun v hv => ?_, fun hv => ?_⟩
    · rcases e7 with ⟨ex, h1, rfl⟩ | ⟨h1, _⟩
      · obtain ⟨kv', l1, l2, _⟩ := v1 ex h1
        rw [hv] at l2; cases l2
        rw [c3 ex kv' l1]
        have k2 : NK c i0 ir F1 (upd H1 pp (.lst [])) σ { s with δ := δ' } adr cont C dx fvs := k1.step (stp_alloc k1.bas.same k1.bas.tb hpp) k1.sl rfl rfl r1
        exact q F1 _ _ st1.grow (setd_found k2 e6.2 hir)
      · rw [(v2 h1).1] at hv; cases hv
    · rcases e7 with ⟨ex, h1, _⟩ | ⟨h1, rfl⟩
      · obtain ⟨kv', l1, l2, _⟩ := v1 ex h1
        rw [hv] at l2; cases l2
      · rw [(v2 h1).2]
        exact q F1 _ _ st1.grow (setd_new (mk := HO.dK) (mkf := NF.rk) (fun a b h => by cases h; rfl) (fun _ => rfl) k1 e6.2 hir e4 hp (hfo.mono st1.grow) c1 hpp (fun _ _ _ _ h => h))
theorem dn_setdT {o ke : Expr} {f : Str} {x : Str} {ix : Nat → Option Nat} {fk : FD} {pos npos apos bpos cpos lpos : Pos} (T : FldT M f ix) (hu : X.A.units + 1 < cLine) (hir : i0 ≠ ir) (hN : X.N.Nodup) (hi : X.N[ir]? = some x) (hx : Loc X.env.scope x) (ho : PE X o (tVar i0)) (hk : DI M W X ke fk) (hK : X.K = M.K := by rfl)
    (hb : attributeBase o f X.env (eval o X.env) = eval o X.env := by rfl) (m : M2 X (.Attribute o f apos) "setdefault" bpos ke (.List [] lpos) cpos := by exact ⟨rfl, rfl, rfl, rfl⟩)
    (hs : swapsWith (.Call (.Attribute (.Attribute o f apos) "setdefault" bpos) [ke, .List [] lpos] [] cpos) (some (.Name x npos)) pos.line X.env = pure false := by rfl) (hf : X.fn x = true ∨ X.env.scope.names.lookup x = some .local := by first | exact .inl rfl | exact .inr rfl | assumption) :
    DN1 M W X i0 ir (.Assign [.Name x npos] (.Call (.Attribute (.Attribute o f apos) "setdefault" bpos) [ke, .List [] lpos] [] cpos) pos) (nSetdT ir ix fk) := by
  obtain ⟨tk, pk, hk⟩ := di_frm hk
  refine ⟨_, ps_set hN hi hx (pe_dsetdT hu (pe_fld ho hb) pk (pe_lst pa_nil) m) hs hf, fun c F H σ s s' E ⟨adr, cont, C, dx, fvs, k⟩ e q => ?_⟩
  obtain ⟨kd, δ', j, kk, nf, L, e1, e2, e3, e4, e5, e6, e7⟩ := nSetd_inv e
  obtain ⟨f1, i1, r1⟩ := runI_eq e1
  obtain ⟨p, hp, hlk, hfo⟩ := fvs_look T k (j := j) e2 e4
  obtain ⟨t1, t2⟩ := (T s.n j e2).1 C k.G
  cases nf with
  | d x => cases e5
  | dk ks ds => cases e5
  | rk L' => cases e5
  | rt L' =>
    cases e5
    have hfo' : rowsOk M F adr cont j HO.dT L p.2 := hfo
    obtain ⟨ev, ⟨kvs, c1, c2, c3⟩, _, _⟩ := hfo'
    refine ⟨_, k.i0, _, C, dx, fvs, p.2, rfl, k.cel.at_ _ _ k.sf, by rw [hK]; exact t1, by rw [hK]; exact t2, hlk, adr (.fld j), ev, .inr ⟨kvs, .inl (k.cel.at_ _ _ c1)⟩, ?_⟩
    refine hk F H σ s.δ kd δ' _ k.bas.same k.bas.tb k.sl f1 i1 fun kv F1 H1 st1 sl1 rk => ⟨Nat.zero_le _, fun pp hpp => ?_⟩
    have k1 : NK c i0 ir F1 H1 σ { s with δ := δ' } adr cont C dx fvs := k.step st1 sl1 rfl rfl r1
    cases kd with
    | tup kds =>
      unfold rep at rk
      obtain ⟨b, vs, rfl, hb1, hb2⟩ := rk
      have ek := keysOf_v hb2 e3
      subst ek
      have hb3 := k1.bas.same _ _ hb1
      have hfld := k1.cel.at_ _ _ c1
      have hll : kvs.length = L.length := by have := congrArg List.length c2; simpa using this
      obtain ⟨v1, v2⟩ := val_idx kk c2
      refine ⟨kvs, kk, b, by rw [upd_ne (L2.ne_of_none hfld hpp)]; exact hfld, rfl, by rw [upd_ne (L2.ne_of_none hb3 hpp)]; exact hb3, by rw [hll, sizeLine_eq]; exact e6.1, fun v hv => ?_, fun hv => ?_⟩
      · rcases e7 with ⟨ex, h1, rfl⟩ | ⟨h1, _⟩
        · obtain ⟨kv', l1, l2, _⟩ := v1 ex h1
          rw [hv] at l2; cases l2
          rw [c3 ex kv' l1]
          have k2 : NK c i0 ir F1 (upd H1 pp (.lst [])) σ { s with δ := δ' } adr cont C dx fvs := k1.step (stp_alloc k1.bas.same k1.bas.tb hpp) k1.sl rfl rfl r1
          exact q F1 _ _ st1.grow (setd_found k2 e6.2 hir)
        · rw [(v2 h1).1] at hv; cases hv
      · rcases e7 with ⟨ex, h1, _⟩ | ⟨h1, rfl⟩
        · obtain ⟨kv', l1, l2, _⟩ := v1 ex h1
          rw [hv] at l2; cases l2
        · rw [(v2 h1).2]
          exact q F1 _ _ st1.grow (setd_new (mk := HO.dT) (mkf := NF.rt) (fun a b h => by cases h; rfl) (fun _ => rfl) k1 e6.2 hir e4 hp (hfo.mono st1.grow) c1 hpp (fun _ _ _ _ h => h))
    | _ => cases e3
def set2 (i j : Nat) (x y : D) (δ : Sl) : Sl := (δ.set i (some (.imm x))).set j (some (.imm y))
def nAsg2 (ir i j : Nat) (fe : FD) : GN := fun s => (runI ir fe s.δ).bind fun p => match p.1 with
  | .tup [x, y] => some { s with δ := set2 i j x y p.2 }
  | _ => none
theorem NK.set2 {c : Cn M} {F H : Hp} {σ : St} {s : NS} {adr : Adr} {cont : Con} {C dx : Addr} {fvs : List (Str × V)} (k : NK c i0 ir F H σ s adr cont C dx fvs) {i j : Nat} {x y : D} {v w : V} (hi : i ≠ i0 ∧ i ≠ ir) (hj : j ≠ i0 ∧ j ≠ ir) (rx : rep M F x v) (ry : rep M F y w) : NK c i0 ir F H ((σ.set i (some v)).set j (some w)) { s with δ := TS.set2 i j x y s.δ } adr cont C dx fvs :=
  ⟨k.bas, k.cel, (k.sl.setI i rx).setI j ry, k.G, k.sf, k.nm, k.ln, k.fl, k.no, by rw [List.getElem?_set_ne hj.1, List.getElem?_set_ne hi.1]; exact k.i0, by
    unfold TS.set2; rw [List.getElem?_set_ne hj.2, List.getElem?_set_ne hi.2]; exact k.rn, fun j' e h => by rw [List.getElem?_set_ne hj.2, List.getElem?_set_ne hi.2]; exact k.al j' e h⟩
theorem dn_asg2 {tg e : Expr} {i j : Nat} {fe : FD} {pos : Pos} (hi : i ≠ i0 ∧ i ≠ ir) (hj : j ≠ i0 ∧ j ≠ ir) (hg : PG X tg (gTup X.K 2 (gCons (gName i) (gCons (gName j) gNil)))) (he : DI M W X e fe) (hs : swapsWithSole [tg] e pos.line X.env = pure false := by rfl) (hw : swappedStores [tg] e X.env = pure none := by rfl)
    (h1 : (assignEach [tg] X.env).map (·.2) = [assign tg X.env] := by rfl) : DN1 M W X i0 ir (.Assign [tg] e pos) (nAsg2 ir i j fe) := by
  obtain ⟨te, pe, he⟩ := di_frm he
  refine ⟨_, ps_asg pe hg hs hw h1, fun c F H σ s s' E ⟨adr, cont, C, dx, fvs, k⟩ e q => ?_⟩
  obtain ⟨⟨d, δ1⟩, e1, e⟩ := Option.bind_eq_some_iff.mp e
  obtain ⟨f1, i1, r1⟩ := runI_eq e1
  refine he F H σ s.δ d δ1 _ k.bas.same k.bas.tb k.sl f1 i1 fun v F1 H1 st1 sl1 rv => ?_
  split at e
  · rename_i x y hd
    simp only at hd
    subst hd
    cases e
    unfold rep at rv
    obtain ⟨a, vs, rfl, h2, h3⟩ := rv
    unfold reps at h3
    obtain ⟨v1, r, rfl, k1, h3⟩ := h3
    unfold reps at h3
    obtain ⟨v2, r, rfl, k2, h3⟩ := h3
    unfold reps at h3
    subst h3
    have kk : NK c i0 ir F1 H1 σ { s with δ := δ1 } adr cont C dx fvs := k.step st1 sl1 rfl rfl r1
    exact ⟨a, _, rfl, SqT.of (kk.bas.same _ _ h2), rfl, v1, _, rfl, v2, _, rfl, rfl, q F1 H1 _ st1.grow ⟨_, _, _, _, _, kk.set2 hi hj k1 k2⟩⟩
  · cases e
def runT (ir : Nat) (f : FT) (δ : Sl) : Option (Bool × Sl) := match f δ with
  | .ok d δ' => if immS δ' && noneAt ir δ' then some (d, δ') else none
  | _ => none
theorem runT_eq {f : FT} {δ δ' : Sl} {d : Bool} (h : runT ir f δ = some (d, δ')) : f δ = .ok d δ' ∧ immS δ' = true ∧ (δ'[ir]?).join = none := by
  unfold runT at h
  split at h
  · rename_i d2 δ2 e
    split at h
    · rename_i hi
      rw [Bool.and_eq_true] at hi
      cases h; exact ⟨e, hi.1, noneAt_eq hi.2⟩
    · cases h
  · cases h
def nIf (ir : Nat) (ft : FT) (g h : GN) : GN := fun s => (runT ir ft s.δ).bind fun p => if p.1 then g { s with δ := p.2 } else h { s with δ := p.2 }
theorem dn_if {e : Expr} {ss ss' : List Stmt} {pos : Pos} {ft : FT} {g h : GN} (ht : DT M W X e ft) (ha : DN M W X i0 ir ss g) (hb : DN M W X i0 ir ss' h) : DN1 M W X i0 ir (.If e ss ss' pos) (nIf ir ft g h) := by
  obtain ⟨tt, pt, ht⟩ := dt_frm ht
  obtain ⟨ta, pa, ha⟩ := ha
  obtain ⟨tb, pb, hb⟩ := hb
  refine ⟨_, ps_if pt pa pb, fun c F H σ s s' E ⟨adr, cont, C, dx, fvs, k⟩ e q => ?_⟩
  obtain ⟨⟨b, δ1⟩, e1, e⟩ := Option.bind_eq_some_iff.mp e
  obtain ⟨f1, i1, r1⟩ := runT_eq e1
  refine ht F H σ s.δ b δ1 _ k.bas.same k.bas.tb k.sl f1 i1 fun F1 H1 st1 sl1 => ?_
  have kk : NK c i0 ir F1 H1 σ { s with δ := δ1 } adr cont C dx fvs := k.step st1 sl1 rfl rfl r1
  cases b with
  | true => exact ha c F1 H1 σ _ s' E ⟨_, _, _, _, _, kk⟩ e fun F2 H2 σ2 g2 k2 => q F2 H2 σ2 (st1.grow.trans g2) k2
  | false => exact hb c F1 H1 σ _ s' E ⟨_, _, _, _, _, kk⟩ e fun F2 H2 σ2 g2 k2 => q F2 H2 σ2 (st1.grow.trans g2) k2
def nForL (i j : Nat) (body : GN) : List D → GN
  | [], s => some s
  | d :: ds, s => match d with
    | .tup [x, y] => (body { s with δ := set2 i j x y s.δ }).bind (nForL i j body ds)
    | _ => none
def runA (ir : Nat) (f : FA) (δ : Sl) : Option (List D × Sl) := match f δ with
  | .ok d δ' => if immS δ' && noneAt ir δ' then some (d, δ') else none
  | _ => none
theorem runA_eq {f : FA} {δ δ' : Sl} {d : List D} (h : runA ir f δ = some (d, δ')) : f δ = .ok d δ' ∧ immS δ' = true ∧ (δ'[ir]?).join = none := by
  unfold runA at h
  split at h
  · rename_i d2 δ2 e
    split at h
    · rename_i hi
      rw [Bool.and_eq_true] at hi
      cases h; exact ⟨e, hi.1, noneAt_eq hi.2⟩
    · cases h
  · cases h
theorem for_core {c : Cn M} {F1 H1 : Hp} {σ : St} {s s' : NS} {E : Ends} {i j : Nat} {body : GN} {tb : L2.TS} {J : It} {ds : List D} (hi : i ≠ i0 ∧ i ≠ ir) (hj : j ≠ i0 ∧ j ≠ ir)
    (hb : ∀ (c : Cn M) F H σ s s' E, NOk c i0 ir F H σ s → body s = some s' → (∀ F' H' σ', Same F F' → NOk c i0 ir F' H' σ' s' → E.nx σ' H') → tb E σ H)
    (wk : Walks M J F1 ds) (k : NOk c i0 ir F1 H1 σ s) (e : nForL i j body ds s = some s') (q : ∀ F' H' σ', Same F1 F' → NOk c i0 ir F' H' σ' s' → E.nx σ' H') :
    ∃ Wv : Nat → Nat → St → Hp → Prop, (∃ m, Wv 0 m σ H1) ∧ ∀ i' m σ H, Wv i' m σ H → (J.stop i' H ∧ E.nx σ H) ∨ (J.go i' H ∧ ∃ N : St → Hp → Prop, (∀ σ' H', N σ' H' → ∃ m', m' < m ∧ Wv (i' + 1) m' σ' H') ∧ ∀ x H', J.yld i' H x H' → (gTup M.K 2 (gCons (gName i) (gCons (gName j) gNil))) x σ H' fun σ2 H2 => tb { E with nx := N, ct := N, bk := E.nx } σ2 H2) := by
  refine ⟨fun i' m σ H => i' ≤ ds.length ∧ m = ds.length - i' ∧ ∃ F' s1, Same F1 F' ∧ NOk c i0 ir F' H σ s1 ∧ nForL i j body (ds.drop i') s1 = some s', ⟨ds.length, Nat.zero_le _, rfl, F1, s, Same.refl _, k, e⟩, ?_⟩
  rintro i' m σ2 H2 ⟨hil, rfl, F2, s2, g2, ⟨adr, cont, C, dx, fvs, k2⟩, e2⟩
  by_cases hl : i' < ds.length
  · right
    have hd : ds[i']? = some ds[i'] := List.getElem?_eq_getElem hl
    obtain ⟨w1, w2⟩ := (wk i' H2 (g2.trans k2.bas.same)).1 _ hd
    refine ⟨w1, fun σ' H' => ∃ F' s1, Same F1 F' ∧ NOk c i0 ir F' H' σ' s1 ∧ nForL i j body (ds.drop (i' + 1)) s1 = some s', fun σ' H' h => ⟨ds.length - (i' + 1), by omega, by omega, rfl, h⟩, fun x H' y => ?_⟩
    rw [List.drop_eq_getElem_cons hl] at e2
    unfold nForL at e2
    split at e2
    · rename_i a b hab
      obtain ⟨s3, e3, e4⟩ := Option.bind_eq_some_iff.mp e2
      have go : ∀ {F3 : Hp} {p : Addr} {ws : List V}, Stp M F2 H2 F3 H' none → H' p = some (.tup ws) → reps M F3 [a, b] ws → x = .ref p → (gTup M.K 2 (gCons (gName i) (gCons (gName j) gNil))) x σ2 H' fun σ2 H2 => tb { E with nx := fun σ' H' => ∃ F' s1, Same F1 F' ∧ NOk c i0 ir F' H' σ' s1 ∧ nForL i j body (ds.drop (i' + 1)) s1 = some s', ct := fun σ' H' => ∃ F' s1, Same F1 F' ∧ NOk c i0 ir F' H' σ' s1 ∧ nForL i j body (ds.drop (i' + 1)) s1 = some s', bk := E.nx } σ2 H2 := fun {F3 p ws} st hp hr hx => by
        subst hx
        unfold reps at hr
        obtain ⟨v1, r, rfl, l1, hr⟩ := hr
        unfold reps at hr
        obtain ⟨v2, r, rfl, l2, hr⟩ := hr
        unfold reps at hr
        subst hr
        have k3 : NK c i0 ir F3 H' σ2 s2 adr cont C dx fvs := k2.step st (k2.sl.mono st.grow) rfl rfl k2.rn
        refine ⟨p, _, rfl, SqT.of hp, rfl, v1, _, rfl, v2, _, rfl, rfl, ?_⟩
        exact hb c F3 H' _ _ s3 _ ⟨_, _, _, _, _, k3.set2 hi hj l1 l2⟩ e3 fun F4 H4 σ4 g4 k4 => ⟨F4, s3, (g2.trans st.grow).trans g4, k4, e4⟩
      obtain ⟨F3, st, r⟩ := (w2 x H' y).stp g2 k2.bas.same k2.bas.tb
      rw [hab] at r
      unfold rep at r
      obtain ⟨p, ws, rfl, h2, h3⟩ := r
      exact go st (st.same _ _ h2) h3 rfl
    · cases e2
  · left
    have hi' : i' = ds.length := by omega
    subst hi'
    refine ⟨(wk _ H2 (g2.trans k2.bas.same)).2 (List.getElem?_eq_none (Nat.le_refl _)), ?_⟩
    rw [List.drop_length] at e2
    unfold nForL at e2
    cases e2
    exact q F2 H2 σ2 g2 ⟨_, _, _, _, _, k2⟩
def nForG (ir i j : Nat) (fi : FA) (body : GN) : GN := fun s => (runA ir fi s.δ).bind fun p => nForL i j body p.1 { s with δ := p.2 }
theorem dn_forG {tg iter : Expr} {ss : List Stmt} {pos : Pos} {fi : FA} {body : GN} {i j : Nat} (hp : PassesOwn (model X.prog X.w) X.A X.env X.xe) (hc : X.calm = true) (hi : i ≠ i0 ∧ i ≠ ir) (hj : j ≠ i0 ∧ j ≠ ir) (hit : DIt M W X tg iter fi) (hg : PG X tg (gTup X.K 2 (gCons (gName i) (gCons (gName j) gNil)))) (hb : DN M W X i0 ir ss body) (hK : X.K = M.K := by rfl)
    (hs : ∀ x, foldedSetIterable iter X.env x = pure x := by intro _; rfl) : DN1 M W X i0 ir (.For tg iter ss [] pos) (nForG ir i j fi body) := by
  obtain ⟨wi, pi, hit⟩ := dit_frm hit
  obtain ⟨tb, pb, hb⟩ := hb
  rw [hK] at hg
  refine ⟨_, ps_for hp hc pi hg pb hs, fun c F H σ s s' E ⟨adr, cont, C, dx, fvs, k⟩ e q => ?_⟩
  obtain ⟨⟨ds, δ1⟩, e1, e⟩ := Option.bind_eq_some_iff.mp e
  obtain ⟨f1, i1, r1⟩ := runA_eq e1
  refine hit F H σ s.δ ds δ1 _ k.bas.same k.bas.tb k.sl f1 i1 fun J F1 H1 st1 sl1 wk => ?_
  have kk : NK c i0 ir F1 H1 σ { s with δ := δ1 } adr cont C dx fvs := k.step st1 sl1 rfl rfl r1
  exact for_core hi hj hb wk ⟨_, _, _, _, _, kk⟩ e fun F2 H2 σ2 g2 k2 => q F2 H2 σ2 (st1.grow.trans g2) k2
def nForF (i j : Nat) (ix : Nat → Option Nat) (body : GN) : GN := fun s => (ix s.n).bind fun jf => (s.fs[jf]?).bind fun f => match f with
  | .d (.lst ds) => nForL i j body (enumD 0 ds) s
  | _ => none
theorem dn_forF {o : Expr} {f : Str} {ix : Nat → Option Nat} {elts : List Expr} {kk : Nat} {tpos epos ppos apos pos : Pos} {ss : List Stmt} {body : GN} {i j : Nat} (T : FldT M f ix) (hp : PassesOwn (model X.prog X.w) X.A X.env X.xe) (hc : X.calm = true) (hi : i ≠ i0 ∧ i ≠ ir) (hj : j ≠ i0 ∧ j ≠ ir) (hge : Gl X "enumerate") (hme : X.mg "enumerate" = none) (ho : PE X o (tVar i0))
    (hg : PG X (.Tuple elts kk tpos) (gTup X.K 2 (gCons (gName i) (gCons (gName j) gNil)))) (hb : DN M W X i0 ir ss body) (hK : X.K = M.K := by rfl) (hba : attributeBase o f X.env (eval o X.env) = eval o X.env := by rfl)
    (hs1 : starEach [.Attribute o f apos] X.env = [(false, eval (.Attribute o f apos) X.env)] := by rfl) (hs2 : starEach (.Attribute o f apos :: []) X.env = (false, eval (.Attribute o f apos) X.env) :: starEach [] X.env := by rfl)
    (hs : ∀ x, foldedSetIterable (.Call (.Name "enumerate" ppos) [.Attribute o f apos] [] epos) X.env x = pure x := by intro _; rfl) : DN1 M W X i0 ir (.For (.Tuple elts kk tpos) (.Call (.Name "enumerate" ppos) [.Attribute o f apos] [] epos) ss [] pos) (nForF i j ix body) := by
  obtain ⟨tb, pb, hb⟩ := hb
  rw [hK] at hg
  refine ⟨_, ps_for hp hc (pi_enum hge hme (pa_cons (pe_fld ho hba) pa_nil hs2) hs1) hg pb hs, fun c F H σ s s' E ⟨adr, cont, C, dx, fvs, k⟩ e q => ?_⟩
  obtain ⟨jf, e1, e⟩ := Option.bind_eq_some_iff.mp e
  obtain ⟨nf, e2, e⟩ := Option.bind_eq_some_iff.mp e
  split at e
  · rename_i ds
    obtain ⟨p, hp2, hlk, hfo⟩ := fvs_look T k (j := jf) e1 e2
    obtain ⟨t1, t2⟩ := (T s.n jf e1).1 C k.G
    have hfo' : rep M F (.lst ds) p.2 := hfo
    unfold rep at hfo'
    obtain ⟨a, vs, ea, h2, h3⟩ := hfo'
    refine ⟨_, k.i0, _, C, dx, fvs, p.2, rfl, k.cel.at_ _ _ k.sf, by rw [hK]; exact t1, by rw [hK]; exact t2, hlk, a, vs, by rw [ea], SqL.of (k.bas.same _ _ h2), ?_⟩
    exact for_core hi hj hb (walks_enum hK h2 h3) ⟨_, _, _, _, _, k⟩ e q
  · cases e
end
end
end TS

namespace TS
open PySem L2
noncomputable section
def nestS (i0 ir : Nat) (g : GN) : FS := fun δ => match δ[i0]? with
  | some (some (.brw (.o n ds))) => if immS (δ.set i0 none) && noneAt ir (δ.set i0 none) then (match g ⟨δ.set i0 none, n, ds.map NF.d, none⟩ with
    | some s' => .nx (s'.δ.set i0 (some (.brw (.o s'.n (s'.fs.map NF.toD)))))
    | none => .bad) else .bad
  | _ => .bad
section
variable {M : Gm} {W : WX} {X : Cx} {i0 ir : Nat} {c : Cn M} {F F' H H' : Hp} {σ : St} {δ : Sl} {s : NS}
theorem reps_of_get : ∀ {ds : List D} {vs : List V}, ds.length = vs.length → (∀ (i : Nat) (d : D) (v : V), ds[i]? = some d → vs[i]? = some v → rep M F d v) → reps M F ds vs
  | [], [], _, _ => reps_nil
  | [], v :: vs, h, _ => by simp at h
  | d :: ds, [], h, _ => by simp at h
  | d :: ds, v :: vs, h, hh => reps_cons (hh 0 d v rfl rfl) (reps_of_get (by simpa using h) fun i d' v' e1 e2 => hh (i + 1) d' v' (by simpa using e1) (by simpa using e2))
theorem nest_in (ok : Ok c F H σ δ) {n : Nat} {ds : List D} (e : δ[i0]? = some (some (.brw (.o n ds)))) (hi : immS (δ.set i0 none) = true) (hn : ((δ.set i0 none)[ir]?).join = none) : NOk c i0 ir F H σ ⟨δ.set i0 none, n, ds.map NF.d, none⟩ := by
  obtain ⟨v, ev, a, rfl, h1, h2, C, dx, fs, h3, h4, h5, h6⟩ := ok.slot i0 _ e
  have hl : fs.length = ds.length := by have := reps_length h6; simpa using this
  have only : ∀ p o, setC (fun _ => none) Pth.self (some (HO.ins C dx fs)) p = some o → p = .self ∧ o = .ins C dx fs := fun p o h => by
    by_cases z : p = .self
    · subst z; rw [setC_same] at h; cases h; exact ⟨rfl, rfl⟩
    · rw [setC_ne z] at h; cases h
  refine ⟨fun _ => a, setC (fun _ => none) .self (some (.ins C dx fs)), C, dx, fs, ⟨ok.same, ok.grow, ok.nofz, ok.kept, ok.ioh, ok.tb⟩, ⟨fun p o h => ?_, fun p o h => h1, fun p o h hs => absurd (only p o h).1 hs, fun p q o o' hp hq _ => (only p o hp).1.trans (only q o' hq).1.symm, h2, ⟨_, setC_same _ _ _⟩, fun p o h => by rw [(only p o h).2]; rfl⟩, ⟨by simp [ok.len], fun i r er => ?_⟩, h3, setC_same _ _ _, by simpa using h5, by simpa using hl, fun j f p hj hp => ?_, fun j hj => ⟨setC_ne (by intro z; cases z), fun e => setC_ne (by intro z; cases z)⟩, ev, hn, fun j e h => by cases h⟩
  · obtain ⟨_, rfl⟩ := only p o h; exact h4
  · obtain ⟨d, rfl⟩ := immS_at hi er
    rcases getElem?_set_some er with ⟨_, z, _⟩ | ⟨hne, er⟩
    · cases z
    · obtain ⟨w, w1, w2⟩ := ok.slot i _ er
      exact ⟨d, w, rfl, w1, w2⟩
  · simp only [List.getElem?_map] at hj
    obtain ⟨d, hd, rfl⟩ := Option.map_eq_some_iff.mp hj
    obtain ⟨w, w1, w2⟩ := reps_get h6 hd
    rw [List.getElem?_map, hp] at w1
    cases w1
    exact w2
def dicHO : HO → Bool
  | .dK _ => true
  | .dT _ => true
  | _ => false
def Lkd (as : List Addr) (H H' : Hp) : Prop := ∀ b, H' b = H b ∨ (b ∈ as ∧ ∃ od u, H b = some u ∧ dicHO u = true ∧ H' b = some (.frz od u))
theorem lk_list : ∀ (as : List Addr) (H : Hp), LkS (fun H' => Lkd as H H' ∧ ∀ a ∈ as, ∀ u, H a = some u → dicHO u = true → ∃ od, H' a = some (.frz od u)) H
  | [], H => .now ⟨fun b => .inl rfl, fun a ha => by simp at ha⟩
  | a :: as, H => by
    by_cases z : ∃ u, H a = some u ∧ dicHO u = true
    · obtain ⟨u, h, hd⟩ := z
      refine .lock a u h (by cases u <;> first | exact True.intro | cases hd) fun od => (lk_list as _).mono fun H' ⟨l, k⟩ => ?_
      have ea : H' a = some (.frz od u) := by
        rcases l a with q | ⟨_, od', u', q1, q2, _⟩
        · rw [q, upd_same]
        · rw [upd_same] at q1; cases q1; cases q2
      refine ⟨fun b => ?_, fun b hb u' hu hd' => ?_⟩
      · by_cases e : b = a
        · subst e; exact .inr ⟨List.mem_cons_self .., od, u, h, hd, ea⟩
        · rcases l b with q | ⟨hm, od', u', q1, q2, q3⟩
          · rw [upd_ne e] at q; exact .inl q
          · rw [upd_ne e] at q1; exact .inr ⟨List.mem_cons_of_mem _ hm, od', u', q1, q2, q3⟩
      · by_cases e : b = a
        · subst e
          rw [h] at hu; cases hu
          exact ⟨od, ea⟩
        · rcases List.mem_cons.mp hb with e' | hm
          · exact absurd e' e
          · exact k b hm u' (by rw [upd_ne e]; exact hu) hd'
    · refine (lk_list as H).mono fun H' ⟨l, k⟩ => ⟨fun b => ?_, fun b hb u' hu hd' => ?_⟩
      · rcases l b with q | ⟨hm, q⟩
        · exact .inl q
        · exact .inr ⟨List.mem_cons_of_mem _ hm, q⟩
      · rcases List.mem_cons.mp hb with e' | hm
        · subst e'; exact absurd ⟨u', hu, hd'⟩ z
        · exact k b hm u' hu hd'
def cellsOf (adr : Adr) (cont : Con) (n : Nat) : List Addr := ((List.range n).filter fun j => (cont (.fld j)).isSome).map fun j => adr (.fld j)
open Classical in
theorem nest_outL {adr : Adr} {cont : Con} {C dx : Addr} {fvs : List (Str × V)} (k : NK c i0 ir F H σ s adr cont C dx fvs) (hl : Lkd (cellsOf adr cont s.fs.length) H H') (hk : ∀ a ∈ cellsOf adr cont s.fs.length, ∀ u, H a = some u → dicHO u = true → ∃ od, H' a = some (.frz od u)) :
    ∃ F', Same F F' ∧ Ok c F' H' σ (s.δ.set i0 (some (.brw (.o s.n (s.fs.map NF.toD))))) := by
  unfold cellsOf at hl hk
  have hcell : ∀ b, b ∈ (((List.range s.fs.length).filter fun j => (cont (.fld j)).isSome).map fun j => adr (.fld j)) → ∃ j o, cont (.fld j) = some o ∧ adr (.fld j) = b := fun b hb => by
    obtain ⟨j, hj, e⟩ := List.mem_map.mp hb
    obtain ⟨_, hs⟩ := List.mem_filter.mp hj
    obtain ⟨o, ho⟩ := Option.isSome_iff_exists.mp hs
    exact ⟨j, o, ho, e⟩
  -- what is no cell stays
  have hoff : ∀ b, (¬ ∃ p o, p ≠ Pth.self ∧ cont p = some o ∧ adr p = b) → H' b = H b := fun b h => by
    rcases hl b with q | ⟨hm, _⟩
    · exact q
    · obtain ⟨j, o, h1, h2⟩ := hcell b hm
      exact absurd ⟨.fld j, o, (by intro z; cases z), h1, h2⟩ h
  have hstay : ∀ b o, H b = some o → dicHO o = false → H' b = some o := fun b o e hd => by
    rcases hl b with q | ⟨_, od, u, q1, q2, _⟩
    · rw [q]; exact e
    · rw [e] at q1; cases q1; rw [hd] at q2; cases q2
  let F' : Hp := fun b => if ∃ p o, p ≠ Pth.self ∧ cont p = some o ∧ adr p = b then H' b else F b
  have fOn : ∀ p o, p ≠ .self → cont p = some o → dicHO o = false → F' (adr p) = some o := fun p o hs h hd => by
    show (if _ then _ else _) = _
    rw [if_pos ⟨p, o, hs, h, rfl⟩]; exact hstay _ _ (k.cel.at_ p o h) hd
  have fOnD : ∀ j o, j < s.fs.length → cont (.fld j) = some o → dicHO o = true → ∃ od, F' (adr (.fld j)) = some (.frz od o) := fun j o hj h hd => by
    obtain ⟨od, e⟩ := hk (adr (.fld j)) (List.mem_map.mpr ⟨j, List.mem_filter.mpr ⟨List.mem_range.mpr hj, by simp [h]⟩, rfl⟩) o (k.cel.at_ _ _ h) hd
    refine ⟨od, ?_⟩
    show (if _ then _ else _) = _
    rw [if_pos ⟨.fld j, o, (by intro z; cases z), h, rfl⟩]; exact e
  have fOff : ∀ b, (¬ ∃ p o, p ≠ Pth.self ∧ cont p = some o ∧ adr p = b) → F' b = F b := fun b h => if_neg h
  have g : Same F F' := fun b o e => by
    rw [fOff b]
    · exact e
    · rintro ⟨p, o', hs, h, rfl⟩
      rw [k.cel.fr p o' h] at e; cases e
  have sm : Same F' H' := fun b o e => by
    by_cases z : ∃ p o, p ≠ Pth.self ∧ cont p = some o ∧ adr p = b
    · rw [show F' b = H' b from if_pos z] at e; exact e
    · rw [fOff b z] at e; rw [hoff b z]; exact k.bas.same b o e
  have fS : F' (adr .self) = none := by
    rw [fOff]
    · exact k.cel.fr _ _ k.sf
    · rintro ⟨p, o, hs, h, e⟩
      exact hs (k.cel.inj p .self o _ h k.sf e)
  have rows : ∀ {κ : Type} {mk : List (κ × V) → HO} {j : Nat} {L : List (κ × List D)} {v : V}, j < s.fs.length → (∀ l, dicHO (mk l) = true) → rowsOk M F adr cont j mk L v → ∃ (od : Obj) (kvs : List (κ × V)), v = .ref (adr (.fld j)) ∧ F' (adr (.fld j)) = some (.frz od (mk kvs)) ∧ kvs.map (·.1) = L.map (·.1) ∧ reps M F' (L.map fun x => D.lst x.2) (kvs.map (·.2)) := fun {κ mk j L v} hj hmk h => by
    obtain ⟨k1, ⟨kvs, k2, k3, k4⟩, k5, k6⟩ := h
    obtain ⟨od, e0⟩ := fOnD j _ hj k2 (hmk _)
    refine ⟨od, kvs, k1, e0, k3, reps_of_get (by have := congrArg List.length k3; simp at this ⊢; omega) fun i d w e1 e2 => ?_⟩
    rw [List.getElem?_map] at e1 e2
    obtain ⟨x, hx, rfl⟩ := Option.map_eq_some_iff.mp e1
    obtain ⟨kv, hkv, rfl⟩ := Option.map_eq_some_iff.mp e2
    obtain ⟨vs, l1, l2⟩ := k5 i x hx
    unfold rep
    exact ⟨adr (.row j i), vs, k4 i kv hkv, fOn _ _ (by intro z; cases z) l1 rfl, reps_mono g _ _ l2⟩
  have fld : ∀ j f v, j < s.fs.length → fldOk M F adr cont j f v → rep M F' f.toD v := fun j f v hj h => by
    cases f with
    | d x => exact rep_mono g _ _ h
    | dk ks ds =>
      obtain ⟨k1, kvs, k2, k3, k4⟩ := h
      obtain ⟨od, e0⟩ := fOnD j _ hj k2 rfl
      unfold NF.toD rep
      exact ⟨_, od, kvs, k1, e0, k3, reps_mono g _ _ k4⟩
    | rk L =>
      obtain ⟨od, kvs, k1, k2, k3, k4⟩ := rows hj (fun _ => rfl) (show rowsOk M F adr cont j HO.dK L v from h)
      unfold NF.toD rep
      exact ⟨_, od, kvs, k1, k2, k3, k4⟩
    | rt L =>
      obtain ⟨od, kvs, k1, k2, k3, k4⟩ := rows hj (fun _ => rfl) (show rowsOk M F adr cont j HO.dT L v from h)
      unfold NF.toD rep
      exact ⟨_, od, kvs, k1, k2, k3, k4⟩
  have others : ∀ (j : Nat) (r : R), (s.δ.set i0 (some (.brw (.o s.n (s.fs.map NF.toD)))))[j]? = some (some r) → (i0 = j ∧ r = .brw (.o s.n (s.fs.map NF.toD))) ∨ (i0 ≠ j ∧ ∃ d v, r = .imm d ∧ σ[j]? = some (some v) ∧ rep M F d v) := fun j r e => by
    rcases getElem?_set_some e with ⟨z, z2, _⟩ | ⟨z, e⟩
    · exact .inl ⟨z, (Option.some.inj z2).symm⟩
    · exact .inr ⟨z, k.sl.at_ j r e⟩
  refine ⟨F', g, sm, k.bas.grow.trans g, fun b e1 e2 => ?_, fun b o e hi => ?_, fun b e => ?_, k.bas.tb.keep (fun b o e n => ?_) (fun b o e n z => by
    rw [fOff b]
    · exact z
    · rintro ⟨p, o', hs, h, z'⟩
      rw [← z', k.cel.at_ p o' h] at e; cases e; exact n (k.cel.nt p _ h)) (fun b ps e => by
    by_cases z : ∃ p o, p ≠ Pth.self ∧ cont p = some o ∧ adr p = b
    · obtain ⟨p, o, hs, h, rfl⟩ := z
      have e' : H' (adr p) = some (.tbl ps) := sm _ _ e
      rcases hl (adr p) with q | ⟨_, od, u, q1, q2, q3⟩
      · rw [q, k.cel.at_ p o h] at e'; cases e'
        have := k.cel.nt p _ h
        cases this
      · rw [q3] at e'; cases e'
    · rw [fOff b z] at e; exact k.bas.tb.nt b ps e), by simp [k.sl.len], fun j r e => ?_, fun i j r r' v hij e1 e2 m1 m2 _ _ => ?_⟩
  · rw [fOff b]
    · exact k.bas.nofz b e1 e2
    · rintro ⟨p, o, hs, h, rfl⟩
      exact e1 (k.cel.h0 p o h hs)
  · rw [hoff b]
    · exact k.bas.kept b o e hi
    · rintro ⟨p, o', hs, h, rfl⟩
      rw [k.cel.h0 p o' h hs] at e; cases e
  · obtain ⟨o, e1, e2⟩ := k.bas.ioh b e
    rcases hl b with q | ⟨_, od, u, q1, q2, q3⟩
    · exact ⟨o, by rw [q]; exact e1, e2⟩
    · exact ⟨_, q3, rfl⟩
  · exact hstay b o e (by cases o <;> first | rfl | exact absurd rfl n)
  · rcases others j r e with ⟨rfl, rfl⟩ | ⟨_, d, v, rfl, e1, e2⟩
    · refine ⟨_, k.i0, adr .self, rfl, fS, k.cel.io, C, dx, fvs, k.G, hstay _ _ (k.cel.at_ _ _ k.sf) rfl, by simpa using k.nm, ?_⟩
      refine reps_of_get (by simp [k.ln]) fun i d v e1 e2 => ?_
      rw [List.getElem?_map] at e1 e2
      obtain ⟨f, hf, rfl⟩ := Option.map_eq_some_iff.mp e1
      obtain ⟨p, hp, rfl⟩ := Option.map_eq_some_iff.mp e2
      exact fld i f p.2 (List.getElem?_eq_some_iff.mp hf).1 (k.fl i f p hf hp)
    · exact ⟨v, e1, rep_mono g _ _ e2⟩
  · rcases others i r e1 with ⟨rfl, rfl⟩ | ⟨_, d, w, rfl, _, _⟩
    · rcases others j r' e2 with ⟨rfl, rfl⟩ | ⟨_, d, w, rfl, _, _⟩
      · exact hij rfl
      · cases m2
    · cases m1
theorem nest_out (k : NOk c i0 ir F H σ s) : LkS (fun H' => ∃ F', Same F F' ∧ Ok c F' H' σ (s.δ.set i0 (some (.brw (.o s.n (s.fs.map NF.toD)))))) H := by
  obtain ⟨adr, cont, C, dx, fvs, k⟩ := k
  exact (lk_list (cellsOf adr cont s.fs.length) H).mono fun H' ⟨hl, hk⟩ => nest_outL k hl hk
theorem dss_nest {ss : List Stmt} {g : GN} (h : DN M W X i0 ir ss g) : DSs M W X ss (nestS i0 ir g) := by
  obtain ⟨t, p, h⟩ := h
  refine ⟨_, pss_lks p, fun c F H σ δ E ok post => ?_⟩
  unfold nestS at post
  split at post
  · rename_i n ds e0
    split at post
    · rename_i hi
      rw [Bool.and_eq_true] at hi
      split at post
      · rename_i s' e1
        refine h c F H σ _ s' (lkD E) (nest_in ok e0 hi.1 (noneAt_eq hi.2)) e1 fun F1 H1 σ1 g1 k1 => ?_
        exact (nest_out k1).mono fun H2 ⟨F2, g2, ok2⟩ => post F2 H2 σ1 (g1.trans g2) ok2
      · exact post.elim
    · exact post.elim
  · exact post.elim
end
end
end TS

namespace TS
open PySem L2
noncomputable section
def fChain (g g' : D → D → Option R) (fa fb fc : FD) : FE := fun δ => (fa δ).bind fun x δ1 => (fb δ1).bind fun y δ2 => match g x y with
  | some (.imm (.bl true)) => (fc δ2).bind fun w δ3 => (match g' y w with
    | some z => .ok z δ3
    | none => .bad)
  | some (.imm (.bl false)) => .ok (.imm (.bl false)) δ2
  | _ => .bad
section
variable {M : Gm} {W : WX} {X : Cx} {a b c : Expr} {pos : Pos} {fa fb fc : FD} {r r' : R2} {g g' : D → D → Option R}
theorem chain_run (hd : OpD M r g) (hd' : OpD M r' g') {ta tb tc : TE} (ha : ∀ (c : Cn M) F H σ δ Q, Ok c F H σ δ → Post c W F σ (ρD c) (fa δ) Q → ta σ H Q) (hb : ∀ (c : Cn M) F H σ δ Q, Ok c F H σ δ → Post c W F σ (ρD c) (fb δ) Q → tb σ H Q) (hc : ∀ (c : Cn M) F H σ δ Q, Ok c F H σ δ → Post c W F σ (ρD c) (fc δ) Q → tc σ H Q) : ∀ (c : Cn M) F H σ δ Q, Ok c F H σ δ → Post c W F σ (ρR c σ) (fChain g g' fa fb fc δ) Q → tChain r r' ta tb tc σ H Q := by
  intro c F H σ δ Q ok post
  refine ha c F H σ δ _ ok (Post.bind post fun dx δ1 x F1 H1 _ s1 ok1 rx post => hb c F1 H1 σ δ1 _ ok1 (Post.bind post fun dy δ2 y F2 H2 _ s2 ok2 ry post => ?_))
  have rx2 := rep_mono s2 _ _ rx
  split at post
  · rename_i e
    refine hd c F2 H2 σ δ2 x y dx dy _ _ ok2 (.inl rx2) (.inl ry) e fun v F3 H3 g3 ok3 rv => ?_
    have ev : v = .bl true := by have : rep M F3 (.bl true) v := rv; unfold rep at this; exact this
    subst ev
    refine ⟨true, rfl, ?_⟩
    rw [if_pos rfl]
    have post := Post.shift post g3
    exact hc c F3 H3 σ δ2 _ ok3 (Post.bind post fun dw δ3 w F4 H4 _ s4 ok4 rw' post => bin_of hd' ok4 (.inl (rep_mono (g3.trans s4) _ _ ry)) (.inl rw') post)
  · rename_i e
    refine hd c F2 H2 σ δ2 x y dx dy _ _ ok2 (.inl rx2) (.inl ry) e fun v F3 H3 g3 ok3 rv => ?_
    have ev : v = .bl false := by have : rep M F3 (.bl false) v := rv; unfold rep at this; exact this
    subst ev
    refine ⟨false, rfl, ?_⟩
    rw [if_neg (by simp)]
    exact post _ F3 H3 g3 ok3 rv
  · exact post.elim
theorem d_chain {op op' : CmpOp} (ho : OpR X (compareOp op) r) (ho' : OpR X (compareOp op') r') (hd : OpD M r g) (hd' : OpD M r' g') (ha : DI M W X a fa) (hb : DI M W X b fb) (hc : DI M W X c fc) (hm : lastMarks [op, op'] [b, c] = false := by with_unfolding_all rfl) : DE M W X (.Compare a [op, op'] [b, c] pos) (fChain g g' fa fb fc) := by
  obtain ⟨ta, pa, ha⟩ := ha
  obtain ⟨tb, pb, hb⟩ := hb
  obtain ⟨tc, pc, hc⟩ := hc
  exact ⟨_, pe_chain ho ho' pa pb pc hm, chain_run hd hd' ha hb hc⟩
theorem dt_chain {op op' : CmpOp} (ho : OpR X (compareOp op) r) (ho' : OpR X (compareOp op') r') (hd : OpD M r g) (hd' : OpD M r' g') (ha : DI M W X a fa) (hb : DI M W X b fb) (hc : DI M W X c fc) (hm : lastMarks [op, op'] [b, c] = false := by with_unfolding_all rfl) : DT M W X (.Compare a [op, op'] [b, c] pos) (fTst (fChain g g' fa fb fc)) := by
  obtain ⟨ta, pa, ha⟩ := ha
  obtain ⟨tb, pb, hb⟩ := hb
  obtain ⟨tc, pc, hc⟩ := hc
  exact ⟨_, pt_chain ho ho' pa pb pc hm, tst_of (chain_run hd hd' ha hb hc)⟩
theorem di_gstr {x z : Str} {pos : Pos} (hg : Gl X x) (hm : ∃ t, X.mg x = some (.str z t)) (hd : (x == ("__debug__" : Str)) = false := by decide) : DI M W X (.Name x pos) (kD (.str z)) := by
  obtain ⟨t, hm⟩ := hm
  exact di_c (v := .str z) (pe_glob (v := V.str z) hg hm (show ∃ t', Value.str z t = Value.str z t' from ⟨t, rfl⟩) hd) fun F => by unfold rep; rfl
def gGet : D → D → D → Option D
  | .dK ks ds, k, x => (keyOf k).map fun k => (lookD ks ds k).getD x
  | .dT ks ds, .tup kds, x => (keysOf kds).map fun k => (lookD ks ds k).getD x
  | _, _, _ => none
def isDD : D → Bool
  | .dK _ _ => true
  | .dT _ _ => true
  | _ => false
def fGet (fo fk fx : FD) : FD := fun δ => (fo δ).bind fun d δ1 => if isDD d then (fk δ1).bind fun k δ2 => (fx δ2).bind fun x δ3 => (match gGet d k x with
  | some z => .ok z δ3
  | none => .bad) else .bad
end
end
end TS

namespace TS
open PySem L2
noncomputable section
section
variable {M : Gm} {c : Cn M} {W : WX} {X : Cx} {F H : Hp} {σ : St} {δ : Sl}
theorem repR_alloc {p : Addr} {o : HO} (hp : H p = none) {r : R} {v : V} (h : repM c F H σ δ r v) : repM c F (upd H p o) σ δ r v := by
  cases r with
  | imm d => exact h
  | brw o => exact h
  | own ob =>
    obtain ⟨a, rfl, h1, h2, h3, h4⟩ := h
    obtain ⟨u, hu⟩ := obAt_some h3
    exact ⟨a, rfl, h1, h2, obAt_mono (Same.refl _) (upd_ne (L2.ne_of_none hu hp)) h3, h4⟩
  | nst _ _ => exact h.elim
def sPar2E (i j : Nat) (f : FX) : FS := fun δ => (f δ).bindS fun rs δ1 => match rs with
  | [a, b] => if i < δ1.length then .nx ((δ1.set i (some a)).set j (some b)) else .bad
  | _ => .bad
end
end
end TS

namespace TS
open PySem L2 PySem.Spec PyProof.Rows
noncomputable section
mutual
def noLam : D → Bool
  | .lam => false
  | .lst ds => noLams ds
  | .tup ds => noLams ds
  | .scr ds => noLams ds
  | .dK _ ds => noLams ds
  | .dT _ ds => noLams ds
  | .obj _ ds => noLams ds
  | _ => true
def noLams : List D → Bool
  | [] => true
  | d :: ds => noLam d && noLams ds
end
section
variable {M : Gm} {L : Lm} {F F' H H' : Hp}
end
def frz1 (i : Nat) (δ : Sl) : Sl := match δ[i]? with
  | some (some (.own o)) => δ.set i (some (.imm o.toD))
  | _ => δ
def frzS : List Nat → Sl → Sl
  | [], δ => δ
  | i :: is, δ => frzS is (frz1 i δ)
def immP (δ : Sl) : Sl := δ.map fun x => match x with
  | some (.imm d) => some (.imm d)
  | _ => none
def thk (fb : FE) (δ : Sl) : Res D := match frz fb (immP δ) with
  | .ok d _ => .ok d []
  | .exc x _ => .exc x []
  | .bad => .bad
def fRes (i : Nat) (res : Res D) : FE := fun δ => match δ[i]? with
  | some (some (.imm .lam)) => (match res with
    | .ok d _ => .ok (.imm d) δ
    | .exc x _ => .exc x δ
    | .bad => .bad)
  | _ => .bad
def outL (r : FR) (δ : Sl) : Res R := match r with
  | .ok (.imm d) _ => if noLam d then .ok (.imm d) δ else .bad
  | .ok (.own o) _ => if noLam o.toD then .ok (.own o) δ else .bad
  | .exc x _ => if noLams x.vs then .exc x δ else .bad
  | _ => .bad
def fLam (ixs : List Nat) (mt : Res D → Fm) (fb : FE) : FE := fun δ => outL (mt (thk fb (frzS ixs δ)) none [.lam]) (frzS ixs δ)
section
variable {M : Gm} {c : Cn M} {F F' H H' : Hp} {σ : L2.St} {δ : Sl}
theorem Ok.frz1 (ok : Ok c F H σ δ) (i : Nat) : LkS (fun H' => ∃ F', Same F F' ∧ Ok c F' H' σ (TS.frz1 i δ)) H := by
  unfold TS.frz1
  split
  · rename_i o q
    obtain ⟨v, e1, e2⟩ := ok.take q
    refine ((ok.drop i).freeze e2).mono fun H2 ⟨F', g, ok', r'⟩ => ?_
    have ok2 := ok'.setSame (i := i) e1 r'
    rw [List.set_set] at ok2
    exact ⟨F', g, ok2⟩
  · exact .now ⟨F, Same.refl _, ok⟩
theorem Ok.frzS : ∀ {F H : Hp} {δ : Sl} (is : List Nat), Ok c F H σ δ → LkS (fun H' => ∃ F', Same F F' ∧ Ok c F' H' σ (TS.frzS is δ)) H
  | F, _, _, [], ok => .now ⟨F, Same.refl _, ok⟩
  | F, _, _, i :: is, ok => (ok.frz1 i).bind fun _ ⟨F1, g1, ok1⟩ => (Ok.frzS is ok1).mono fun _ ⟨F2, g2, ok2⟩ => ⟨F2, g1.trans g2, ok2⟩
theorem Ok.immP (ok : Ok c F H σ δ) (g : Same F F') : SlI (M := M) F' σ (TS.immP δ) := ⟨by unfold TS.immP; simp [ok.len], fun i r e => by
  unfold TS.immP at e
  rw [List.getElem?_map] at e
  cases q : δ[i]? with
  | none => rw [q] at e; cases e
  | some x =>
    rw [q] at e
    cases x with
    | none => simp at e
    | some r0 =>
      cases r0 with
      | imm d =>
        simp at e
        subst e
        obtain ⟨v, e1, e2⟩ := ok.slot i _ q
        exact ⟨d, v, rfl, e1, rep_mono g _ _ e2⟩
      | own o => simp at e
      | brw o => simp at e
      | nst _ _ => simp at e⟩
end
section
variable {X : Cx} {W : WX} {M : Gm}
end
end
end TS

namespace TS
open PySem L2
noncomputable section
def SmK (K : PySem.W.Frag) : Prop := ∃ o, K.lookup sysModules = some o ∧ o.cls = .type "dict"
theorem smd_ok {K : PySem.W.Frag} (h : (Fx.smd).ok K = true) : SmK K := by
  have h : (match K.lookup sysModules with | some ⟨.type c, _, _, _⟩ => decide (c = "dict") | _ => false) = true := h
  split at h
  · rename_i c od dd sl e
    have := of_decide_eq_true h
    subst this
    exact ⟨_, e, rfl⟩
  · cases h
def kP : Key → PyData
  | .inl i => .int i
  | .inr x => .str x
mutual
def toPd : D → Option PyData
  | .non => some .none
  | .bl b => some (.bool b)
  | .int i => some (.int i)
  | .str x => some (.str x)
  | .lst ds => (toPds ds).map PyData.list
  | .tup ds => (toPds ds).map PyData.tuple
  | .ktp ns => some (.tuple (ns.map PyData.int))
  | .dK ks ds => (toPds ds).map fun ps => PyData.dict ((ks.map kP).zip ps)
  | _ => none
def toPds : List D → Option (List PyData)
  | [] => some []
  | d :: ds => (toPd d).bind fun p => (toPds ds).map fun ps => p :: ps
end
section
variable {M : Gm} {F H : Hp} {X : Cx} {pins : List (Addr × Obj)} {σ : St} {s : Shared}
theorem pairs_keys {w : World} {P : Program} : ∀ {es : List DictEntry} {vs : List (Key × Value)}, Pairs (mixKind P w) es vs → ReadsAll s.heap (es.map (·.key)) ((vs.map (·.1)).map kP) []
  | _, _, .nil => .nil
  | _, _, .cons (e := e) (kv := kv) h _ t => by
    have r := pairs_keys t
    have h1 : ∃ as, Reads s.heap e.key (kP kv.1) as ∧ as = [] := by
      rcases keyIs_shape h with ⟨i, u, h1, h2⟩ | ⟨x, u, h1, h2⟩
      · rw [h1, h2]; exact ⟨_, .int i u, rfl⟩
      · rw [h1, h2]; exact ⟨_, .str x u, rfl⟩
    obtain ⟨as, h1, rfl⟩ := h1
    exact ReadsAll.cons h1 r
theorem pairs_vals {w : World} {P : Program} : ∀ {es : List DictEntry} {vs : List (Key × Value)}, Pairs (mixKind P w) es vs → es.map (·.val) = vs.map (·.2)
  | _, _, .nil => rfl
  | _, _, .cons _ h t => by rw [List.map_cons, List.map_cons, h, pairs_vals t]
theorem kv_vals : ∀ {kvs : List (Key × V)} {vs : List (Key × Value)}, KV kvs vs → Vals (kvs.map (·.2)) (vs.map (·.2)) ∧ kvs.map (·.1) = vs.map (·.1)
  | _, _, .nil => ⟨.nil, rfl⟩
  | _, _, .cons h t => by
    obtain ⟨h1, h2⟩ := kv_vals t
    exact ⟨.cons h.2 h1, by rw [List.map_cons, List.map_cons, h.1, h2]⟩
theorem ints_reads : ∀ (ns : List Int) (its : List Value), Vals (ns.map V.int) its → ∃ as, ReadsAll s.heap its (ns.map PyData.int) as ∧ sysModules ∉ as
  | [], _, r => by cases r; exact ⟨_, .nil, by simp⟩
  | n :: ns, _, r => by
    rw [List.map_cons] at r
    cases r with
    | cons r1 r2 =>
      obtain ⟨t, rfl⟩ := r1
      obtain ⟨as, k1, k2⟩ := ints_reads ns _ r2
      exact ⟨_, .cons (.int n t) k1, by simpa using k2⟩
end
def shOkD (p : PyData) : Bool := gd (p.showable = true ∧ p.depth ≤ 32 ∧ p.shown.length ≤ sizeLine)
def gReprD (d : D) : Option Str := match toPd d with
  | some p => if shOkD p then some p.shown else none
  | none => none
def fReprD (fa : FD) : FD := fun δ => (fa δ).bind fun d δ1 => match gReprD d with
  | some x => .ok (.str x) δ1
  | none => .bad
section
variable {X : Cx} {M : Gm} {W : WX} {e : Expr} {fa : FD} {p pos : Pos}
end
end
end TS

namespace TS
open PySem L2 PySem.W
noncomputable section
section
variable {X : Cx} {W : WX} {M : Gm} {pins : List (Addr × Obj)} {σ : L2.St} {H : Hp} {s : Shared}
end
section
variable {X : Cx} {W : WX} {M : Gm} {pins : List (Addr × Obj)} {σ : L2.St} {H : Hp} {s : Shared} {k : Nat} {C p g : Addr} {mc : Value} {sp : Sp} {o : Expr} {m : Str} {pos apos : Pos} {ta : TE} {tkw : TA} {kws : List Keyword} {ks : List Str}
def fCMethK (n : Nat) (f : Fm) (l : Nat) (fk : FA) : FE := fun δ => (fk δ).bind fun ds δ1 => if ds.length = l then outE (f none (.cls n :: ds)) δ1 else .bad
end
end
end TS

namespace TS
open PySem L2 PySem.W
noncomputable section
section
variable {M : Gm} {c : Cn M} {W : WX} {X : Cx} {q : Cau} {o e : Expr} {es : List Expr} {apos cpos pos : Pos} {fa : FA} {i : Nat}
end
section
open GQ PySem.SeqAt AutoSeq1 MeetsSeq MeetsSeq2 MeetsSeq3 SeqRoads2
variable {prog : Program} {w : World} {A : Around} {R : Result → Shared → Prop}
end
section
variable {M : Gm} {X : Cx} {pins : List (Addr × Obj)} {σ : L2.St} {H : Hp} {s : Shared}
end
end
end TS

namespace TS
open PySem L2 PySem.W
noncomputable section
section
variable {X : Cx} {M : Gm} {W : WX} {e : Expr} {fe : FD} {p pos : Pos}
end
section
variable {X : Cx} {M : Gm} {W : WX} {e v1 v2 o : Expr} {es rest : List Expr} {fe fo : FD} {p pos apos : Pos} {g : Str → Sl → Res Str}
end
end
end TS

namespace TS
open PySem L2 PySem.W
noncomputable section
section
variable {X : Cx} {M : Gm} {W : WX} {o e : Expr} {es : List Expr} {kws : List Keyword} {apos cpos pos p : Pos} {fa fk : FA} {i : Nat}
end
end
end TS

namespace TS
open PySem L2
noncomputable section
section
variable {P : Program} {w : World} {K : PySem.W.Frag} {mg : Str → Option Value} {base : Heap} {CX : CXT} {k n : Nat} {ks ps : List Str} {f : Addr} {sp : Sp}
theorem FnK.star {name qual : Str} {params : Arguments} {body : List Stmt} {scope : Scope} {dV kV doc pm cdv ct oc : Value} {an od : Option Addr} {osl : Array (Option Value)} {N : List Str} {pv : Str} (lk : K.lookup f = some ⟨oc, od, .func (PySem.W.fnOf name qual params body scope dV kV doc pm an cdv ct), osl⟩) (hcd : PySem.W.codeIn K cdv qual = true)
    (S : FnScope N (ps ++ [pv]) scope) (hCX : StX.CXUp CX)
    (hbi : ∀ us ws : List Value, us.length = n → ws.length = ks.length → bindArgs (PySem.W.fnOf name qual params body scope dV kV doc pm an cdv ct) ⟨us, ks.zip ws⟩ = (newTuple [] >>= fun t => pure (ps.zip (us ++ ws) ++ [(pv, t)]))) (hnp : n + ks.length = ps.length)
    (hb : ∀ (A : Around) (outer : List Env) (s : Shared) (H : Hp) (vs : List V) (Q : VK) (E : XK), Room k (A.deeper (PyProof.Rows.envOfC qual scope s.heap.objs.size f cdv)) → sp vs H Q E →
      ∃ t, PSs (cxOf CX P w K mg base N qual scope f cdv A outer s H E) body t ∧ t { rt := Q, nx := fun _ H' => Q .non H' } (start N vs) H) :
    FnK P w K mg base CX (k + 1) f n ks (fun vs H Q E => ∃ ws rest, vs = ws ++ rest ∧ ws.length = ps.length ∧ rest.length ≤ sizeLine ∧ ∀ p, H p = Option.none → sp (ws ++ [V.ref p]) (upd H p (.tup rest)) Q E) := by
  rintro A outer s H us zu vs0 zs0 Q E hr e0 la lb rva rvb ⟨ws, rest, hsp, hl, hz, hq⟩
  obtain rfl : rest = [] := by
    have h1 := congrArg List.length hsp
    rw [List.length_append, List.length_append] at h1
    exact List.length_eq_zero_iff.mp (by omega)
  rw [List.append_nil] at hsp
  subst hsp
  obtain ⟨u1, hu1⟩ : ∃ u1, u1 = us ++ zu := ⟨_, rfl⟩
  obtain ⟨u2, hu2⟩ : ∃ u2 : List Value, u2 = [] := ⟨_, rfl⟩
  have r1 : Vals (vs0 ++ zs0) u1 := by rw [hu1]; exact rva.append rvb
  have r2 : Vals [] u2 := by rw [hu2]; exact .nil
  have l1 : u1.length = ps.length := r1.length.symm.trans hl
  have l2 : u2.length ≤ sizeLine := by have := r2.length; omega
  have hn : H s.heap.objs.size = Option.none := e0.hok.fresh (Nat.le_refl _)
  have kin : K.In s.heap := e0.mod.kin.keeps fun b o e => (e0.bs b o e).1
  refine codeAny_call_function hr.depth (kin _ _ lk) rfl S.co S.gen rfl (PySem.W.codeRec_of kin hcd) ?_
  rw [hbi us zu (rva.length.symm.trans la) (rvb.length.symm.trans lb), ← hu1, ← hu2]
  refine wpAny_bind (wpAny_newTuple (wpAny_pure ?_) l2)
  let ob : Obj := { cls := .type "tuple", data := .seq u2.toArray }
  have nw : ObjOk P w (upd H s.heap.objs.size (.tup ([] : List V))) (s.heap.push ob) s.heap.objs.size (.tup ([] : List V)) := ⟨hz, u2, r2, ⟨_, Heap.get?_push_size _ rfl, rfl, _, rfl⟩⟩
  have e2 := StX.env0_laid (o := ob) e0 nw
  have un := StX.un_laid (fs := frs outer) (s := s) (o := ob) (u := .tup ([] : List V)) hn
  have lz : (vs0 ++ zs0 ++ [V.ref s.heap.objs.size]).length = (ps ++ [pv]).length := by rw [List.length_append, hl]; simp
  have rz : Vals (vs0 ++ zs0 ++ [V.ref s.heap.objs.size]) (u1 ++ [Value.ref s.heap.objs.size]) := r1.append (.cons rfl .nil)
  have ez : ps.zip u1 ++ [(pv, Value.ref s.heap.objs.size)] = (ps ++ [pv]).zip (u1 ++ [Value.ref s.heap.objs.size]) := by rw [List.zip_append l1.symm]; rfl
  rw [ez]
  have nl : (s.heap.push ob).NoLimit := e0.mod.nolimit.keeps fun b o e => (e2.bs b o e).1
  have kinds : ∀ y ∈ (ps ++ [pv]).zip (u1 ++ [Value.ref s.heap.objs.size]), scope.names.lookup y.1 = some .local ∨ (scope.names.lookup y.1 = some .cell ∧ ((cellsFrom ((s.heap.push ob).objs.size + 1) scope.names []).lookup y.1).isSome = true) := by
    rintro ⟨n, v⟩ hy
    have := S.par n (List.of_mem_zip hy).1
    exact this.elim Or.inl fun q => Or.inr ⟨q, PySem.W.cellsFrom_some _ _ _ (Or.inl q)⟩
  refine PySem.wpAny_newFunctionEnv_cells (s := { s with heap := s.heap.push ob }) S.kind kinds ?_
  rintro env rfl s1 x1
  refine ⟨nl.keeps x1.toInCall.keep, codeAny_func ?_⟩
  obtain ⟨t, pt, ht⟩ := hb A outer { s with heap := s.heap.push ob } _ _ Q E (Room.deeper hr _) (hq _ hn)
  have I1 := inv_start (CX := CX) (E := E) S hr.hd e2 lz rz x1
  refine wpAny_mono (pt.run [] s1 _ _ _ I1 ht) (fun fl s2 z => ?_) fun e s2 z => ?_
  · cases fl with
    | ret u => obtain ⟨v, σ2, H2, J, ru, q⟩ := z; exact ⟨v, H2, J.os, J.bare, un.trans J.base, J.hok, ru, q⟩
    | next => obtain ⟨σ2, H2, J, q⟩ := z; exact ⟨V.non, H2, J.os, J.bare, un.trans J.base, J.hok, rfl, q⟩
    | brk => obtain ⟨_, _, _, q⟩ := z; exact q.elim
    | cont => obtain ⟨_, _, _, q⟩ := z; exact q.elim
  · have up : ∀ e' s', CX outer (upd H s.heap.objs.size (.tup ([] : List V))) { s with heap := s.heap.push ob } E e' s' → CX outer H s E e' s' := fun e' s' => hCX outer s H _ _ E e' s' un (fun b o q => Heap.get?_push_of_some _ q) rfl
    exact wpAny_mono z (fun _ s3 y => up e s3 y) fun e' s3 y => up e' s3 y
theorem FnK.imp {sp' : Sp} (F : FnK P w K mg base CX k f n ks sp) (h : ∀ vs H Q E, sp' vs H Q E → sp vs H Q E) : FnK P w K mg base CX k f n ks sp' := fun A outer s H us ws vs zs Q E hr e0 l1 l2 r rz hs => F A outer s H us ws vs zs Q E hr e0 l1 l2 r rz (h _ _ _ _ hs)
end
section
variable {M : Gm} {P : Program} {w : World} {mg : Str → Option Value} {base : Heap} {k n : Nat} {ks : List Str} {f : Addr}
end
end
end TS

namespace HT
open PySem PySem.Spec PyProof.Rows
section
variable {prog : Program} {w : World} {A : Around} {E : Value → Shared → Prop} {s : Shared}
end
end HT

namespace TS
open PySem L2 PySem.Spec PyProof.Rows
noncomputable section
section
variable {X : Cx} {M : Gm} {W : WX} {e st : Expr} {te : TE} {ts : TO} {p2 pos : Pos} {fe fs : FD}
end
end
end TS

namespace TS
open PySem L2
noncomputable section
section
variable {M : Gm} {W : WX} {X : Cx} {i0 ir : Nat}
end
section
variable {M : Gm} {W : WX} {X : Cx} {e : Expr} {fe : FD} {p pos : Pos}
variable {q : Cau}
end
end
end TS

namespace TS
open PySem L2
noncomputable section
structure LkF (M : Gm) (i : Nat) (ds : List D) (c : Cn M) (F H : Hp) (σ : L2.St) : Prop where
  ex : ∃ a vs, σ[i]? = some (some (.ref a)) ∧ F a = none ∧ c.H0 a ≠ none ∧ c.io ≠ some a ∧ H a = some (.lst vs) ∧ reps M F ds vs
section
variable {M : Gm} {W : WX} {X : Cx} {e e0 : Expr} {es : List Expr} {fa : FA} {f : Fm} {i : Nat} {ds : List D} {pos pos' : Pos}
theorem LkF.go {c : Cn M} {F H F1 H1 : Hp} {σ σ1 : L2.St} {δ δ1 : Sl} (h : LkF M i ds c F H σ) (ok : Ok c F H σ δ) (s : Same F F1) (ok1 : Ok c F1 H1 σ1 δ1) : ∃ a vs, σ[i]? = some (some (.ref a)) ∧ F1 a = none ∧ H1 a = some (.lst vs) ∧ reps M F1 ds vs := by
  obtain ⟨a, vs, h1, h2, h3, h4, h5, h6⟩ := h.ex
  have f0 : c.F0 a = none := by
    cases e : c.F0 a with
    | none => rfl
    | some o => rw [ok.grow a o e] at h2; cases h2
  cases e : c.H0 a with
  | none => exact absurd e h3
  | some o =>
    have k1 := ok.kept a o e h4
    have k2 := ok1.kept a o e h4
    rw [h5] at k1
    cases k1
    exact ⟨a, vs, h1, ok1.nofz a h3 f0, k2, reps_mono s _ _ h6⟩
end
section
variable {M : Gm} {P : Program} {w : World} {mg : Str → Option Value} {base : Heap}
end
section
variable {M : Gm} {W : WX} {X : Cx} {e e0 : Expr} {i n : Nat} {g : List D → Option (List D)}
end
end
end TS

namespace TS
open PySem L2
noncomputable section
section
variable {X : Cx} {M : Gm} {W : WX} {o : Expr} {apos cpos : Pos} {fe : FE} {i : Nat}
end
end
end TS

namespace TS
open PySem L2
noncomputable section
section
variable {X : Cx} {M : Gm} {W : WX} {a b : Expr} {fa fb : FD} {pos : Pos}
end
end
end TS

namespace TS
open PySem L2
noncomputable section
section
variable {X : Cx} {M : Gm} {W : WX} {a b : Expr} {fa fb : FD} {pos : Pos}
end
end
end TS

namespace TS
open PySem L2
noncomputable section
section
open PySem.Spec PyProof.Rows
variable {P : Program} {w : World} {K : PySem.W.Frag} {tg : Expr} {d : Addr} {o : Obj} {es : Array DictEntry} {ep : Nat}
variable {X : Cx} {e : Expr} {td : TE} {apos cpos : Pos}
end
def keyD : Key → D
  | .inl i => .int i
  | .inr x => .str x
def keysD (ks : List Key) : D := .tup (ks.map keyD)
section
variable {M : Gm} {c : Cn M} {W : WX} {X : Cx} {tg e : Expr} {F F1 H H1 : Hp} {σ : L2.St} {δ : Sl}
theorem rep_key (k : Key) : rep M F (keyD k) (kV k) := by cases k <;> (unfold keyD rep; rfl)
theorem reps_keys : ∀ ks : List Key, reps M F (ks.map keyD) (ks.map kV)
  | [] => reps_nil
  | k :: ks => reps_cons (rep_key k) (reps_keys ks)
theorem Yl.key {k : List Key} {q : Addr} (s : Same F H) (hq : H q = some (.tup (k.map kV))) : Yl M F H (.ref q) H (keysD k) := by
  refine ⟨fun b => if b = q then some (.tup (k.map kV)) else none, fun b o e => ?_, Same.refl _, ?_⟩
  · dsimp only at e
    by_cases z : b = q
    · subst z; rw [if_pos rfl] at e; cases e; exact ⟨⟨_, rfl⟩, hq⟩
    · rw [if_neg z] at e; cases e
  · unfold keysD rep
    refine ⟨q, _, rfl, ?_, reps_keys k⟩
    unfold ovH
    cases z : F q with
    | none => simp
    | some o => have := s _ _ z; rw [hq] at this; cases this; rfl
end
end
end TS

namespace TS
open PySem L2
noncomputable section
section
variable {M : Gm} {c : Cn M} {W : WX} {X : Cx} {e : Expr} {F H : Hp} {σ : L2.St} {δ : Sl} {fa : FA} {p pos : Pos}
end
end
end TS

namespace TS
open PySem L2
noncomputable section
section
variable {M : Gm} {c : Cn M} {W : WX} {X : Cx}
end
end
end TS

namespace TS
open PySem L2
noncomputable section
def sPar4E (i j l m : Nat) (f : FX) : FS := fun δ => (f δ).bindS fun rs δ1 => match rs with
  | [a, b, c, d] => if i < δ1.length ∧ j < δ1.length ∧ l < δ1.length then .nx ((((δ1.set i (some a)).set j (some b)).set l (some c)).set m (some d)) else .bad
  | _ => .bad
section
variable {M : Gm} {c : Cn M} {W : WX} {X : Cx}
theorem ds_par4T {i j l m : Nat} {tg : Expr} {a b c' d : Expr} {fa : FX} {pos tpos : Pos} {kt} (hg : PG X tg (gTup X.K 4 (gCons (gName i) (gCons (gName j) (gCons (gName l) (gCons (gName m) gNil)))))) (ha : DX M W X [a, b, c', d] fa) (hs : swapsWithSole [tg] (.Tuple [a, b, c', d] kt tpos) pos.line X.env = pure false := by rfl) (hw : swappedStores [tg] (.Tuple [a, b, c', d] kt tpos) X.env = pure none := by rfl)
    (h1 : (assignEach [tg] X.env).map (·.2) = [assign tg X.env] := by rfl) : DS M W X (.Assign [tg] (.Tuple [a, b, c', d] kt tpos) pos) (sPar4E i j l m fa) := by
  obtain ⟨t, p, h⟩ := ha
  refine ⟨_, ps_asg (pe_tup p) hg hs hw h1, fun c F H σ δ E ok post => h c F H σ δ _ ok (PostS.ofE post fun rs δ1 vs F1 H1 _ s1 ok1 rr post => ?_)⟩
  split at post
  · rename_i r1 r2 r3 r4 _
    split at post
    · rename_i hlen
      obtain ⟨u, ws, rfl, k1, rr', d1⟩ := id rr
      obtain ⟨v, ws, rfl, k2, rr', d2⟩ := rr'
      obtain ⟨w, ws, rfl, k3, rr', d3⟩ := rr'
      obtain ⟨x, ws, rfl, k4, rr', _⟩ := rr'
      obtain rfl : ws = [] := rr'
      refine ⟨by rw [sizeLine_eq]; simp, fun q hq => ⟨q, [u, v, w, x], rfl, SqT.of upd_same, rfl, u, _, rfl, v, _, rfl, w, _, rfl, x, [], rfl, rfl, ?_⟩⟩
      have ok2 : Ok c F1 (upd H1 q (.tup [u, v, w, x])) σ δ1 := ok1.alloc hq
      have li : i < σ.length := by rw [ok1.len]; exact hlen.1
      have lj : j < σ.length := by rw [ok1.len]; exact hlen.2.1
      have ll : l < σ.length := by rw [ok1.len]; exact hlen.2.2
      have e12 : r1.mu = true → r2.mu = true → v ≠ u := fun m1 m2 z => d1 m1 0 r2 rfl m2 (by rw [z]; rfl)
      have e13 : r1.mu = true → r3.mu = true → w ≠ u := fun m1 m2 z => d1 m1 1 r3 rfl m2 (by rw [z]; rfl)
      have e14 : r1.mu = true → r4.mu = true → x ≠ u := fun m1 m2 z => d1 m1 2 r4 rfl m2 (by rw [z]; rfl)
      have e23 : r2.mu = true → r3.mu = true → w ≠ v := fun m1 m2 z => d2 m1 0 r3 rfl m2 (by rw [z]; rfl)
      have e24 : r2.mu = true → r4.mu = true → x ≠ v := fun m1 m2 z => d2 m1 1 r4 rfl m2 (by rw [z]; rfl)
      have e34 : r3.mu = true → r4.mu = true → x ≠ w := fun m1 m2 z => d3 m1 0 r4 rfl m2 (by rw [z]; rfl)
      exact post F1 _ _ (Same.refl _) ((((ok2.setR i (repR_alloc hq k1)).setR j (repR_setR li (repR_alloc hq k2) e12)).setR l (repR_setR (by simpa using lj) (repR_setR li (repR_alloc hq k3) e13) e23)).setR m
        (repR_setR (by simpa using ll) (repR_setR (by simpa using lj) (repR_setR li (repR_alloc hq k4) e14) e24) e34))
    · exact post.elim
  · exact post.elim
end
end
end TS

namespace TS
open PySem L2 PySem.Spec PyProof.Rows
noncomputable section
section
variable {prog : Program} {w : World} {A : Around} {E : Value → Shared → Prop} {s : Shared} {env : Env}
end
section
variable {X : Cx} {W : WX} {M : Gm}
end
end
end TS

namespace L2
open PySem PySem.Spec PyProof.Rows
section
variable {X : Cx}
end
end L2
namespace TS
open PySem L2
noncomputable section
section
variable {M : Gm} {W : WX} {X : Cx} {tg : Expr} {F F1 H H1 : Hp} {σ : St} {δ : Sl}
end
end
end TS

namespace TS
open PySem L2 PySem.Spec PyProof.Rows
noncomputable section
section
variable {prog : Program} {w : World} {o : Obj} {es : Array DictEntry} {ep : Nat}
end
section
variable {X : Cx} {e : Expr} {te : TE} {apos cpos : Pos}
end
section
variable {M : Gm} {W : WX} {X : Cx} {e a c1 : Expr} {fe : FD} {p p2 apos cpos pos : Pos} {tab : Tg → Option Bool}
section
variable {k : Nat} {x : Str} {ad : Addr} {ns : List Int} (hr : Room k X.A) (hg : Gl X x) (hm : X.mg x = some (.ref ad)) (hk : KTup M.K ad ns) (ha : DI M W X a fe) (hK : X.K = M.K := by rfl) (hdb : (x == ("__debug__" : Str)) = false := by decide)
include hr hg hm hk ha hK hdb
end
end
end
end TS

namespace TS
open PySem L2 PySem.Spec PyProof.Rows
noncomputable section
section
variable {prog : Program} {w : World} {K : Type} [DecidableEq K] {knd : HeapKind prog w K} {A : Around} {E : Value → Shared → Prop} {s : Shared}
inductive HitsH {K : Type} [DecidableEq K] (A : Around) (s : Shared) (kb : List (K × Addr × Value)) : List (K × Addr × Value) → Bool → Prop
  | nil : HitsH A s kb [] true
  | miss {x : K × Addr × Value} {r : List (K × Addr × Value)} : atKey kb x.1 = none → HitsH A s kb (x :: r) false
  | hit {x : K × Addr × Value} {y : Addr × Value} {r : List (K × Addr × Value)} {e b : Bool} : atKey kb x.1 = some y → SeqAt.EqAt A s x.2.2 y.2 e → HitsH A s kb r b → HitsH A s kb (x :: r) (e && b)
theorem HitsH.inv {kb : List (K × Addr × Value)} {x : K × Addr × Value} {r : List (K × Addr × Value)} {b : Bool} (h : HitsH A s kb (x :: r) b) :
    (atKey kb x.1 = none ∧ b = false) ∨ ∃ y e b', atKey kb x.1 = some y ∧ SeqAt.EqAt A s x.2.2 y.2 e ∧ HitsH A s kb r b' ∧ b = (e && b') := by
  cases h with
  | miss hn => exact .inl ⟨hn, rfl⟩
  | hit hy he hr => exact .inr ⟨_, _, _, hy, he, hr, rfl⟩
end
section
variable {X : Cx} {pins : List (Addr × Obj)} {σ : L2.St} {H : Hp} {s : Shared}
end
section
variable {M : Gm} {F H : Hp}
end
section
variable {M : Gm} {W : WX} {X : Cx} {a b : Expr} {pos : Pos} {fa fb : FD} {k : Nat}
end
end
end TS

namespace TS
open PySem L2
noncomputable section
section
variable {M : Gm} {c : Cn M} {W : WX} {X : Cx} {F H : Hp} {σ : L2.St} {δ : Sl}
end
end
end TS

namespace TS
open PySem L2
noncomputable section
section
variable {M : Gm} {c : Cn M} {W : WX} {X : Cx} {F H : Hp} {σ : L2.St} {δ : Sl}
end
end
end TS

namespace L2
open PySem PySem.Spec PyProof.Rows
section
variable {X : Cx}
end
end L2
namespace TS
open PySem L2
noncomputable section
section
variable {M : Gm} {W : WX} {X : Cx} {tg : Expr}
end
end
end TS

namespace TS
open PySem L2
noncomputable section
section
variable {X : Cx} {c : Code} {st : Stmt} {rest ss : List Stmt} {t u : L2.TS}
end
section
variable {X : Cx} {W : WX}
end
section
variable {M : Gm} {W : WX} {X : Cx} {c : Code} {st : Stmt} {ss rest : List Stmt} {f g : FS}
end
structure FunX (K : PySem.W.Frag) (x qual : Str) (params : Arguments) (body : List Stmt) (scope : Scope) (f cc c : Addr) (fd : FuncData) : Prop where
  ex : ∃ (oc : Value) (od : Option Addr) (kV doc pm : Value) (an : Option Addr) (ct : Value) (osl : Array (Option Value)),
    fd = PySem.W.fnX x qual params body scope [("__class__", cc)] .none kV doc pm an (.ref c) ct ∧ K.lookup f = some ⟨oc, od, .func fd, osl⟩ ∧ PySem.W.codeIn K (.ref c) qual = true
  kp : PySem.W.keepIn K (.ref f) = true
section
variable {M : Gm} {P : Program} {w : World} {mg : Str → Option Value} {base : Heap}
theorem FunX.bindsN {K : PySem.W.Frag} {x qual : Str} {params : Arguments} {body : List Stmt} {scope : Scope} {f cc c : Addr} {fd : FuncData} {ps : List Str} (F : FunX K x qual params body scope f cc c fd)
    (h : ∀ (kV doc pm : Value) (an : Option Addr) (ct : Value) (us : List Value), us.length = ps.length → bindArgs (PySem.W.fnX x qual params body scope [("__class__", cc)] .none kV doc pm an (.ref c) ct) ⟨us, []⟩ = pure (ps.zip us)) : Binds K fd ps [] := by
  obtain ⟨oc, od, kV, doc, pm, an, ct, osl, rfl, _⟩ := F.ex
  intro s us kin hl
  rw [List.append_nil] at hl ⊢
  exact BindsTo.of_eq (h kV doc pm an ct us hl)
end
section
variable {X : Cx} {W : WX} {M : Gm} {K : PySem.W.Frag}
end
end
end TS

namespace TS
open PySem L2
noncomputable section
section
variable {M : Gm} {W : WX} {X : Cx} {e : Expr} {es : List Expr} {p pos : Pos} {x : Str} {k : Nat} {f : Addr} {sp : Sp}
end
end
end TS

namespace TS
open PySem L2
noncomputable section
section
variable {M : Gm} {c : Cn M} {W : WX} {X : Cx} {e : Expr} {F H : Hp} {σ : L2.St} {δ : Sl} {fa : FA} {p pos : Pos}
end
end
end TS

namespace PySem.SeqAt
open AutoSeq1 (wpAny_loadPart')
open MeetsSeq MeetsSeq2 MeetsSeq3 SeqRoads2
section
variable {prog : Program} {w : World} {A : Around} {s : Shared}
end
end PySem.SeqAt
namespace TS
open PySem L2 PySem.Spec PyProof.Rows PySem.SeqAt
noncomputable section
section
variable {X : Cx} {pins : List (Addr × Obj)} {σ : L2.St} {H : Hp} {s : Shared}
end
section
variable {M : Gm} {F H : Hp}
end
section
variable {M : Gm} {W : WX} {X : Cx} {a b : Expr} {pos : Pos} {fa fb : FD} {k : Nat}
end
end
end TS

namespace TS
open PySem L2
end TS

namespace TS
open PySem L2 PySem.W
noncomputable section
def DgK (K : PySem.W.Frag) : Prop := nsOkIn K cStatics = true ∧ nsIn K cStatics "sys.int_max_str_digits" = some none
theorem DgK.no {K : PySem.W.Frag} {h : Heap} (d : DgK K) (X : K.In h) : h.NoDigits :=
  ⟨_, .of_isNs (isNs_of_in X d.1), ns_none_of X (.of_isNs (isNs_of_in X d.1)) d.2⟩
section
variable {prog : Program} {w : World} {A : Around} {E : Value → Shared → Prop} {s : Shared}
end
section
variable {X : Cx} {M : Gm} {W : WX} {e : Expr} {fa : FD} {p pos : Pos}
end
end
end TS

namespace TS
open PySem L2
noncomputable section
structure RoomG (g : List Code) (k : Nat) (A : Around) : Prop where
  lo : L2.Room k A
  gu : A.guards = some g
theorem RoomG.deeper {g : List Code} {k : Nat} {A : Around} (r : RoomG g (k + 1) A) (env : Env) : RoomG g k (A.deeper env) := ⟨L2.Room.deeper r.lo env, r.gu⟩
theorem RoomG.mono {g : List Code} {j k : Nat} {A : Around} (r : RoomG g k A) (h : j ≤ k) : RoomG g j A := ⟨L2.Room.mono r.lo h, r.gu⟩
def FnRG (P : Program) (w : World) (K : PySem.W.Frag) (mg : Str → Option Value) (base : Heap) (CX : CXT) (k : Nat) (f : Addr) (sp : List Code → Sp) : Prop :=
  ∀ (g : List Code) (A : Around) (outer : List Env) (s : Shared) (H : Hp) (us : List Value) (vs : List V) (Q : VK) (E : XK), RoomG g k A → Env0 P w K mg base A outer s H → Vals vs us → sp g vs H Q E → codeAny (model P w) A (.call (.ref f) ⟨us, []⟩) (CR CX outer P w H s Q E) s
theorem FnRG.mono {P : Program} {w : World} {K : PySem.W.Frag} {mg : Str → Option Value} {base : Heap} {CX : CXT} {j k : Nat} {f : Addr} {sp : List Code → Sp} (F : FnRG P w K mg base CX j f sp) (h : j ≤ k) : FnRG P w K mg base CX k f sp := fun g A outer s H us vs Q E hr e0 => F g A outer s H us vs Q E (hr.mono h) e0
section
variable {P : Program} {w : World} {K : PySem.W.Frag} {mg : Str → Option Value} {base : Heap} {CX : CXT} {j k : Nat} {f : Addr} {fd : FuncData} {ps : List Str} {sp : List Code → Sp}
end
def GOK (g : List Code) (F : Hp) : Prop := ∀ c ∈ g, ∃ id a rest kw vs b C dx fs, c = .builtin id ⟨.ref a :: rest, kw⟩ ∧ F a = some (.lst vs) ∧ V.ref b ∈ vs ∧ F b = some (.ins C dx fs)
theorem GOK.mono {g : List Code} {F F' : Hp} (h : GOK g F) (e : Same F F') : GOK g F' := fun c hc => by
  obtain ⟨id, a, rest, kw, vs, b, C, dx, fs, e1, e2, e3, e4⟩ := h c hc
  exact ⟨id, a, rest, kw, vs, b, C, dx, fs, e1, e _ _ e2, e3, e _ _ e4⟩
section
variable {X : Cx} {pins : List (Addr × Obj)} {σ : St} {F H : Hp} {s : Shared}
end
def spDP (PF : Hp → Prop) (M : Gm) (f : Fm) : Sp := fun vs H Q E => ∃ (F : Hp) (_ : PF F) (io : Option OB) (a : Addr) (ws : List V) (ds : List D),
  vs = ioV io a ++ ws ∧ Same F H ∧ Tb M F H ∧ reps M F ds ws ∧ ioAt M F H io a ∧
  match f io ds with
  | .ok r io' => ∀ v F' H', Stp M F H F' H' (io.map fun _ => a) → resAt M H F' H' r v → ioAt M F' H' io' a → Q v H'
  | .exc x io' => ∀ cls d F' H', Stp M F H F' H' (io.map fun _ => a) → xAt M F' x cls d H' → ioAt M F' H' io' a → E cls d H'
  | .bad => False
section
variable {M : Gm}
theorem spDP.un {PF : Hp → Prop} {f : Fm} {vs : List V} {H : Hp} {Q : VK} {E : XK} (h : spDP PF M f vs H Q E) : spD M f vs H Q E := by
  obtain ⟨F, _, h⟩ := h
  exact ⟨F, h⟩
end
section
variable {X : Cx} {M : Gm} {W : WX} {g : List Code} {e v1 v2 : Expr} {es rest : List Expr} {fe : FD} {pos : Pos} {j : Str → Sl → Res Str}
end
section
variable {M : Model} {A : Around} {E : Value → Shared → Prop} {s : Shared} {K : PySem.W.Frag} {x C f : Addr} {ox : Obj} {od : Option Obj} {name : Str}
end
abbrev loopC (a : Addr) (i : Int) (P : Addr) (m : Int) : Code := .builtin "list.__repr__.loop" ⟨[.ref a, rawInt i, .ref P, rawInt m], []⟩
theorem loopC_depth {A : Around} {a P : Addr} {i m : Int} : (A.under (loopC a i P m)).depth ≤ A.depth + 1 := by
  simp [Around.under, Code.weight, Code.isCreation, Code.isGuard, Code.isCaller, Code.frames, Code.isFrame, guardIds]
theorem RoomG.loop {k : Nat} {A : Around} (r : Room (k + 1) A) (a : Addr) (i : Int) (P : Addr) (m : Int) : RoomG [loopC a i P m] k (A.under (loopC a i P m)) := by
  have h1 := loopC_depth (A := A) (a := a) (P := P) (i := i) (m := m)
  have h2 : (A.under (loopC a i P m)).units = A.units + 1 := units_under_list_loop A _
  have h3 := r.lo.dp
  have h4 := r.lo.un
  exact ⟨⟨r.lo.hd, by omega, by omega⟩, guards_under_guard (isGuard_list_loop _) r.gu⟩
section
open Builtin Builtin.List
variable {X : Cx} {M : Gm} {A : Around} {R : Result → Shared → Prop} {pins : List (Addr × Obj)} {σ : St} {F H : Hp}
end
section
variable {X : Cx} {M : Gm} {pins : List (Addr × Obj)} {σ : St} {F H : Hp} {s : Shared}
end
end
end TS

namespace TS
open PySem PySem.Spec PyProof.Rows L2
noncomputable section
section
variable {prog : Program} {w : World} {A : Around} {E : Value → Shared → Prop}
end
section
variable {X : Cx}
abbrev PT (K : PySem.W.Frag) (H : Hp) (p : Addr) (x : List Key × Addr × V) : Prop := SqT K H p [.ref x.2.1, x.2.2] ∧ H x.2.1 = some (.tup (x.1.map kV))
end
section
variable {M : Gm} {c : Cn M} {W : WX} {X : Cx} {e : Expr} {F H : Hp} {σ : L2.St} {δ : Sl} {fa : FA} {p pos : Pos}
end
abbrev BodyOk (M : Gm) (P : Program) (w : World) (K : PySem.W.Frag) (mg : Str → Option Value) (base : Heap) (lv : Nat) (q : Str) (st : Stmt) (ad : Addr) (ns : List Str) (g : FS) : Prop :=
  ∀ (cdv : Value) (A : Around) (outer : List Env) (s : Shared) (H : Hp) (E : XK), TS.Room lv (A.deeper (PyProof.Rows.envOfC q (defScope st) s.heap.objs.size ad cdv)) → Takes (cxOf (L2.CX P w) P w K mg base ns q (defScope st) ad cdv A outer s H E) (fun cls d _ H => E cls d H) →
    PassesOwn (model P w) (A.deeper (PyProof.Rows.envOfC q (defScope st) s.heap.objs.size ad cdv)) (PyProof.Rows.envOfC q (defScope st) s.heap.objs.size ad cdv) (cxOf (L2.CX P w) P w K mg base ns q (defScope st) ad cdv A outer s H E).xe →
    DSs M (fun cls d _ H => E cls d H) (cxOf (L2.CX P w) P w K mg base ns q (defScope st) ad cdv A outer s H E) (defBody st) g
abbrev DefOk (M : Gm) (P : Program) (w : World) (K : PySem.W.Frag) (mg : Str → Option Value) (base : Heap) (n : Nat) (nm q : Str) (st : Stmt) (dv : List V) (ad : Addr) (ps : List Str) (m : Fm) : Prop :=
  ∃ fd, FunD K nm q (defArgs st) (defBody st) (defScope st) dv [] ad fd ∧ TS.FnOk P w K mg base (L2.CX P w) n ad fd ps (spD M m)
end
end TS

namespace TS
open PySem L2 PySem.Spec PyProof.Rows PySem.SeqAt
noncomputable section
section
variable {prog : Program} {w : World} {A : Around} {s : Shared}
end
section
variable {X : Cx}
end
section
variable {M : Gm} {W : WX} {X : Cx} {a b : Expr} {pos : Pos} {fa fb : FD} {k i : Nat}
end
end
end TS

namespace TS
open PySem L2
noncomputable section
def pD : D ⊕ OB → D
  | .inl d => d
  | .inr o => o.toD
def pL : D ⊕ OB → Bool
  | .inl _ => true
  | .inr o => !o.dic
def nstD (tp : Bool) (ps : List (D ⊕ OB)) : D := if tp then .tup (ps.map pD) else .lst (ps.map pD)
def seeR : R → Option R
  | .imm d => some (.imm d)
  | .own o => if o.dic then none else some (.imm o.toD)
  | .brw o => if o.dic then none else some (.imm o.toD)
  | .nst tp ps => if ps.all pL then some (.imm (nstD tp ps)) else none
def seeS (δ : Sl) : Sl := δ.map fun x => x.bind seeR
def flatO : OB → Bool
  | .l ds => ds.all flatD
  | _ => false
def flatQ : R → Bool
  | .imm d => flatD d
  | .own o => flatO o
  | _ => false
def fSee (f : FE) : FE := fun δ => match f (seeS δ) with
  | .ok r _ => if flatQ r then .ok r δ else .bad
  | _ => .bad
def tSee (f : FT) : FT := fun δ => match f (seeS δ) with
  | .ok b _ => .ok b δ
  | _ => .bad
section
variable {M : Gm} {c : Cn M} {W : WX} {X : Cx} {F H F' H' : Hp} {σ : L2.St} {δ : Sl}
def ndOf : List R → List (D ⊕ OB)
  | .imm d :: rs => .inl d :: ndOf rs
  | .own o :: rs => .inr o :: ndOf rs
  | _ :: rs => .inl .non :: ndOf rs
  | [] => []
def fNst (f : FX) : FE := fun δ => (f δ).bind fun rs δ1 => if (ndOf rs).length ≤ 16777216 then .ok (.nst false (ndOf rs)) δ1 else .bad
def fNstT (f : FX) : FE := fun δ => (f δ).bind fun rs δ1 => if (ndOf rs).length ≤ 16777216 then .ok (.nst true (ndOf rs)) δ1 else .bad
structure CLe (c c' : Cn M) : Prop where
  F0 : c'.F0 = c.F0
  io : c'.io = c.io
  H0 : ∀ b o, c.H0 b = some o → c'.H0 b = some o
theorem CLe.refl (c : Cn M) : CLe c c := ⟨rfl, rfl, fun _ _ e => e⟩
theorem CLe.none {c c' : Cn M} (l : CLe c c') {b : Addr} (h : c'.H0 b = none) : c.H0 b = none := by
  cases e : c.H0 b with
  | none => rfl
  | some o => rw [l.H0 b o e] at h; cases h
def kill1 : Option R → Option R
  | some (.nst _ _) => none
  | x => x
def killN (δ : Sl) : Sl := δ.map kill1
def SR.kill : SR → SR
  | .nx δ => .nx (killN δ)
  | .rt r δ => .rt r (killN δ)
  | .bk δ => .bk (killN δ)
  | .ct δ => .ct (killN δ)
  | .exc x δ => .exc x (killN δ)
  | .bad => .bad
def frzN (f : FE) : FD := fun δ => (f δ).bind fun r δ1 => match r with
  | .nst tp ps => if ps.all pL then .ok (nstD tp ps) δ1 else .bad
  | .imm d => .ok d δ1
  | .own o => .ok o.toD δ1
  | .brw _ => .bad
theorem freezeN (ok : Ok c F H σ δ) {tp : Bool} {ps : List (D ⊕ OB)} {v : V} (hp : ps.all pL = true) (r : repR c F H σ δ (.nst tp ps) v) : ∃ F', Same F F' ∧ Ok c F' H σ δ ∧ rep M F' (nstD tp ps) v := by
  obtain ⟨a, vs, rfl, n, hn⟩ := r
  let F' : Hp := fun b => match F b with
    | some o => some o
    | none => if b ∈ nOwn tp ps a vs then H b else none
  have g : Same F F' := fun b o e => by show (match F b with | some o => some o | none => if b ∈ nOwn tp ps a vs then H b else none) = _; rw [e]
  have ey : ∀ b, b ∈ nOwn tp ps a vs → F' b = H b := fun b hb => by
    show (match F b with | some o => some o | none => if b ∈ nOwn tp ps a vs then H b else none) = _
    rw [(hn b hb).1]; exact if_pos hb
  have en : ∀ b, b ∉ nOwn tp ps a vs → F b = none → F' b = none := fun b hb h => by
    show (match F b with | some o => some o | none => if b ∈ nOwn tp ps a vs then H b else none) = _
    rw [h]; exact if_neg hb
  have es : ∀ b, F' b = F b ∨ F' b = H b ∧ b ∈ nOwn tp ps a vs := fun b => by
    by_cases hb : b ∈ nOwn tp ps a vs
    · exact .inr ⟨ey b hb, hb⟩
    · cases h : F b with
      | none => exact .inl (en b hb h)
      | some o => exact .inl (g b o h)
  have n2 : NAt M F' F' tp ps a vs := n.mono g ey
  refine ⟨F', g, ⟨fun b o e => ?_, ok.grow.trans g, fun b e1 e2 => ?_, ok.kept, ok.ioh, ?_, ok.len, fun i r e => ?_, ok.dist⟩, ?_⟩
  · rcases es b with h | ⟨h, _⟩
    · rw [h] at e; exact ok.same b o e
    · rw [h] at e; exact e
  · exact en b (fun hb => e1 (hn b hb).2.1) (ok.nofz b e1 e2)
  · refine ok.tb.keep (fun _ _ e _ => e) (fun b o e z h => en b (fun hb => ?_) h) fun b ps' e => ?_
    · obtain ⟨u, h1, h2⟩ := n.nt hb
      rw [e] at h1; cases h1; exact z h2.tt
    · rcases es b with h | ⟨h, hb⟩
      · rw [h] at e; exact ok.tb.nt b ps' e
      · obtain ⟨u, h1, h2⟩ := n.nt hb
        rw [h, h1] at e; cases e; cases h2
  · obtain ⟨v, e1, e2⟩ := ok.slot i r e
    refine ⟨v, e1, ?_⟩
    cases r with
    | imm d => exact rep_mono g _ _ e2
    | own o =>
      obtain ⟨b, rfl, k1, k2, k3⟩ := e2
      exact ⟨b, rfl, en b (fun hb => (hn b hb).2.2 i _ e rfl e1) k1, k2, obAt_mono g rfl k3⟩
    | brw o =>
      obtain ⟨b, rfl, k1, k2, k3⟩ := e2
      exact ⟨b, rfl, en b (fun hb => (hn b hb).2.2 i _ e rfl e1) k1, k2, obAt_mono g rfl k3⟩
    | nst _ _ => exact slot_nst g e2
  · have key : ∀ {ps : List (D ⊕ OB)} {vs : List V}, ps.all pL = true → Paired (nAt M F' F') ps vs → reps M F' (ps.map pD) vs := fun {ps vs} hp h => by
      induction h with
      | nil => exact reps_nil
      | @cons p v ps vs h1 h2 ih =>
        simp only [List.all_cons, Bool.and_eq_true] at hp
        cases p with
        | inl d => exact reps_cons h1 (ih hp.2)
        | inr o =>
          obtain ⟨b, rfl, h1⟩ := h1
          have hd : o.dic = false := by have := hp.1; unfold pL at this; simpa using this
          exact reps_cons (obAt_rep hd h1) (ih hp.2)
    have r := key hp n2.pts
    have t := n2.top
    unfold nstD
    cases tp with
    | true => simp only [if_true] at t ⊢; unfold rep; exact ⟨a, vs, rfl, t, r⟩
    | false => simp only [Bool.false_eq_true, if_false] at t ⊢; unfold rep; exact ⟨a, vs, rfl, t, r⟩
theorem DE.frzN {e : Expr} {f : FE} (h : DE M W X e f) : DI M W X e (TS.frzN f) := by
  obtain ⟨t, p, h⟩ := h
  refine ⟨_, pe_lks p, fun c F H σ δ Q ok post => h c F H σ δ (fun v H' => LkS (Q v) H') ok (Post.bind post fun r δ1 v F1 H1 _ s ok1 rr post => ?_)⟩
  cases r with
  | imm d => exact .now (post.ok ok1 rr)
  | own o => exact (ok1.freeze rr).mono fun H2 ⟨F', g, ok', r'⟩ => post v F' H2 g ok' r'
  | brw o => exact post.elim
  | nst tp ps =>
    dsimp only at post
    split at post
    · rename_i hp
      obtain ⟨F', g, ok2, r2⟩ := freezeN ok1 hp rr
      exact .now (post v F' H1 g ok2 r2)
    · exact post.elim
end
end
end TS

namespace TS
open PySem L2
noncomputable section
section
variable {X : Cx} {M : Gm} {W : WX} {a b : Expr} {fa fb : FD} {pos : Pos} {k : Nat}
end
end
end TS

namespace TS
open PySem L2
noncomputable section
mutual
def toPt : D → Option PyData
  | .non => some .none
  | .bl b => some (.bool b)
  | .int i => some (.int i)
  | .str x => some (.str x)
  | .lst ds => (toPts ds).map PyData.list
  | .tup ds => (toPts ds).map PyData.tuple
  | .ktp ns => some (.tuple (ns.map PyData.int))
  | .dK ks ds => (toPts ds).map fun ps => PyData.dict ((ks.map kP).zip ps)
  | .dT ks ds => (toPts ds).map fun ps => PyData.dict ((ks.map fun k => PyData.tuple (k.map kP)).zip ps)
  | _ => none
def toPts : List D → Option (List PyData)
  | [] => some []
  | d :: ds => (toPt d).bind fun p => (toPts ds).map fun ps => p :: ps
end
theorem toPts_len : ∀ {ds : List D} {ps : List PyData}, toPts ds = some ps → ps.length = ds.length
  | [], ps, h => by unfold toPts at h; cases h; rfl
  | d :: ds, ps, h => by
    unfold toPts at h
    obtain ⟨p, _, h⟩ := Option.bind_eq_some_iff.mp h
    obtain ⟨ps', h1, rfl⟩ := Option.map_eq_some_iff.mp h
    simp [toPts_len h1]
theorem kt_vals {H : Hp} : ∀ {kvs : List (List Key × V)} {xs : List (List Key × Addr × Value)}, KT H kvs xs → Vals (kvs.map (·.2)) (xs.map (·.2.2)) ∧ kvs.map (·.1) = xs.map (·.1)
  | _, _, .nil => ⟨.nil, rfl⟩
  | _, _, .cons h t => by
    obtain ⟨h1, h2⟩ := kt_vals t
    exact ⟨.cons h.2.2 h1, by rw [List.map_cons, List.map_cons, h.1, h2]⟩
theorem items_reads {w : World} {P : Program} {h : Heap} : ∀ {ks : List Key} {us : List Value}, ItemsAre (mixKind P w) ks us → ReadsAll h us (ks.map kP) []
  | _, _, .nil => .nil
  | _, _, .cons (k := k) (v := v) q t => by
    have r := items_reads (h := h) t
    have h1 : ∃ as, Reads h v (kP k) as ∧ as = [] := by
      rcases keyIs_shape q with ⟨i, u, h1, h2⟩ | ⟨x, u, h1, h2⟩
      · rw [h1, h2]; exact ⟨_, .int i u, rfl⟩
      · rw [h1, h2]; exact ⟨_, .str x u, rfl⟩
    obtain ⟨as, h1, rfl⟩ := h1
    exact ReadsAll.cons h1 r
theorem tkeys_read {w : World} {P : Program} {h : Heap} : ∀ (xs : List (List Key × Addr × Value)), (∀ x ∈ xs, (tupleKind (mixKind P w)).is h x.1 x.2.1) → ReadsAll h (xs.map fun x => Value.ref x.2.1) ((xs.map (·.1)).map fun k => PyData.tuple (k.map kP)) []
  | [], _ => .nil
  | x :: xs, q => by
    have r := tkeys_read xs fun y hy => q y (List.mem_cons_of_mem _ hy)
    obtain ⟨o, items, n, h1, h2, h3, h4⟩ := q x List.mem_cons_self
    exact ReadsAll.cons (Reads.tuple h1 h2 h3 (items_reads h4)) r
section
variable {M : Gm} {F H : Hp} {X : Cx} {pins : List (Addr × Obj)} {σ : St} {s : Shared}
mutual
theorem rep_readsT (I : Inv X pins σ H s) (hs : Same F H) (hK : X.K = M.K) (sm : SmK X.K) : ∀ (d : D) (v : V) (u : Value) (p : PyData), rep M F d v → toPt d = some p → RelV v u → ∃ as, Reads s.heap u p as ∧ sysModules ∉ as
  | .non, v, u, p, h, e, r => by
    unfold rep at h; unfold toPt at e; cases e; subst h; cases r
    exact ⟨_, .none, by simp⟩
  | .bl b, v, u, p, h, e, r => by
    unfold rep at h; unfold toPt at e; cases e; subst h; cases r
    exact ⟨_, .bool b, by simp⟩
  | .int i, v, u, p, h, e, r => by
    unfold rep at h; unfold toPt at e; cases e; subst h; obtain ⟨t, rfl⟩ := r
    exact ⟨_, .int i t, by simp⟩
  | .str x, v, u, p, h, e, r => by
    unfold rep at h; unfold toPt at e; cases e; subst h; obtain ⟨t, rfl⟩ := r
    exact ⟨_, .str x t, by simp⟩
  | .lst ds, v, u, p, h, e, r => by
    unfold rep at h; unfold toPt at e
    obtain ⟨a, vs, rfl, h2, h3⟩ := h
    obtain ⟨ps, e1, rfl⟩ := Option.map_eq_some_iff.mp e
    cases r
    obtain ⟨its, rv, ⟨o, n, ho, hc, _, hd⟩, _⟩ := I.list (SqL.of (K := X.K) (hs _ _ h2))
    obtain ⟨as, k1, k2⟩ := reps_readsT I hs hK sm ds vs its ps h3 e1 rv
    refine ⟨_, Reads.list ho hc hd k1, fun z => ?_⟩
    rcases List.mem_cons.mp z with z | z
    · obtain ⟨o2, q1, q2⟩ := sm
      have := I.kIn _ _ q1
      rw [z, ho] at this
      have e3 := Option.some.inj this
      rw [← e3, hc] at q2
      injection q2 with q3
      exact absurd q3 (by decide)
    · exact k2 z
  | .tup ds, v, u, p, h, e, r => by
    unfold rep at h; unfold toPt at e
    obtain ⟨a, vs, rfl, h2, h3⟩ := h
    obtain ⟨ps, e1, rfl⟩ := Option.map_eq_some_iff.mp e
    cases r
    obtain ⟨its, rv, ⟨o, ho, hc, n, hd⟩, _⟩ := I.tuple (SqT.of (K := X.K) (hs _ _ h2))
    obtain ⟨as, k1, k2⟩ := reps_readsT I hs hK sm ds vs its ps h3 e1 rv
    exact ⟨_, Reads.tuple ho hc hd k1, k2⟩
  | .dK ks ds, v, u, p, h, e, r => by
    unfold rep at h; unfold toPt at e
    obtain ⟨a, od, kvs, rfl, h2, h3, h4⟩ := h
    obtain ⟨ps, e1, rfl⟩ := Option.map_eq_some_iff.mp e
    cases r
    obtain ⟨_, hsm, vs, kv, o, es, ep, ho, hx, hd, _, hp, _⟩ := dk_rd I.hok (.inr ⟨od, hs _ _ h2⟩)
    obtain ⟨rv, ek⟩ := kv_vals kv
    rw [← pairs_vals hp] at rv
    obtain ⟨as, k1, k2⟩ := reps_readsT I hs hK sm ds _ _ ps h4 e1 rv
    have kk := pairs_keys (s := s) hp
    rw [← ek, h3] at kk
    have hl : ps.length = ks.length := by
      rw [toPts_len e1, ← reps_length h4, ← h3]; simp
    refine ⟨_, Reads.dict ho hx.1 hd (kvs := (ks.map kP).zip ps) (as := []) (bs := as) ?_ ?_, ?_⟩
    · rw [List.map_fst_zip (by simp [hl])]; exact kk
    · rw [List.map_snd_zip (by simp [hl])]; exact k1
    · intro z
      simp only [List.append_nil, List.cons_append, List.nil_append, List.mem_cons] at z
      rcases z with z | z
      · rw [← z] at hsm; simp at hsm
      · exact k2 z
  | .scr ds, v, u, p, h, e, r => by unfold toPt at e; cases e
  | .dT ks ds, v, u, p, h, e, r => by
    unfold rep at h; unfold toPt at e
    obtain ⟨a, od, kvs, rfl, h2, h3, h4⟩ := h
    obtain ⟨ps, e1, rfl⟩ := Option.map_eq_some_iff.mp e
    cases r
    obtain ⟨_, hsm, xs, kt, o, es, ep, ho, hx, hd, he, hk, _⟩ := dt_rd I.hok (.inr ⟨od, hs _ _ h2⟩)
    obtain ⟨rv, ek⟩ := kt_vals kt
    have ev : es.toList.map (·.val) = xs.map (·.2.2) := by rw [he, List.map_map]; rfl
    rw [← ev] at rv
    obtain ⟨as, k1, k2⟩ := reps_readsT I hs hK sm ds _ _ ps h4 e1 rv
    have kk := tkeys_read (h := s.heap) xs hk
    rw [← ek, h3] at kk
    have ee : es.toList.map (·.key) = xs.map fun x => Value.ref x.2.1 := by rw [he, List.map_map]; rfl
    rw [← ee] at kk
    have hl : ps.length = ks.length := by
      rw [toPts_len e1, ← reps_length h4, ← h3]; simp
    refine ⟨_, Reads.dict ho hx.1 hd (kvs := (ks.map fun k => PyData.tuple (k.map kP)).zip ps) (as := []) (bs := as) ?_ ?_, ?_⟩
    · rw [List.map_fst_zip (by simp [hl])]; exact kk
    · rw [List.map_snd_zip (by simp [hl])]; exact k1
    · intro z
      simp only [List.append_nil, List.cons_append, List.nil_append, List.mem_cons] at z
      rcases z with z | z
      · rw [← z] at hsm; simp at hsm
      · exact k2 z
  | .obj _ ds, v, u, p, h, e, r => by unfold toPt at e; cases e
  | .cls _, v, u, p, h, e, r => by unfold toPt at e; cases e
  | .lam, v, u, p, h, e, r => by unfold toPt at e; cases e
  | .ktp ns, v, u, p, h, e, r => by
    unfold rep at h; unfold toPt at e; cases e
    obtain ⟨a, rfl, h2⟩ := h
    cases r
    obtain ⟨its, rv, ⟨o, ho, hc, n, hd⟩, _⟩ := I.tuple (a := a) (xs := ns.map V.int) (by rw [hK]; exact itup_sq hs h2)
    obtain ⟨as, k1, k2⟩ := ints_reads (s := s) ns its rv
    exact ⟨_, Reads.tuple ho hc hd k1, k2⟩
theorem reps_readsT (I : Inv X pins σ H s) (hs : Same F H) (hK : X.K = M.K) (sm : SmK X.K) : ∀ (ds : List D) (vs : List V) (us : List Value) (ps : List PyData), reps M F ds vs → toPts ds = some ps → Vals vs us → ∃ as, ReadsAll s.heap us ps as ∧ sysModules ∉ as
  | [], vs, us, ps, h, e, r => by
    unfold reps at h; unfold toPts at e; cases e; subst h; cases r
    exact ⟨_, .nil, by simp⟩
  | d :: ds, vs, us, ps, h, e, r => by
    unfold reps at h; unfold toPts at e
    obtain ⟨v, vs', rfl, h1, h2⟩ := h
    obtain ⟨p, e1, e⟩ := Option.bind_eq_some_iff.mp e
    obtain ⟨ps', e2, rfl⟩ := Option.map_eq_some_iff.mp e
    cases r with
    | cons r1 r2 =>
      obtain ⟨as, k1, k2⟩ := rep_readsT I hs hK sm d v _ p h1 e1 r1
      obtain ⟨bs, k3, k4⟩ := reps_readsT I hs hK sm ds vs' _ ps' h2 e2 r2
      exact ⟨_, .cons k1 k3, by simp [k2, k4]⟩
end
end
def gReprT (d : D) : Option Str := match toPt d with
  | some p => if shOkD p then some p.shown else none
  | none => none
def fReprT (fa : FD) : FD := fun δ => (fa δ).bind fun d δ1 => match gReprT d with
  | some x => .ok (.str x) δ1
  | none => .bad
section
variable {X : Cx} {M : Gm} {W : WX} {e : Expr} {fa : FD} {p pos : Pos}
theorem call_reprT {k : Nat} (hr : Room k X.A) {F H : Hp} {d : D} {q : PyData} {x : V} (hs : Same F H) (hK : X.K = M.K) (sm : SmK X.K) (rx : rep M F d x) (hd : toPt d = some q) (ho : shOkD q = true) {pins : List (Addr × Obj)} {s : Shared} {σ : St} {u : Value} {Q : VK} (I : Inv X pins σ H s) (ru : RelV x u) (h : Q (.str q.shown) H) :
    wpAny (model X.prog X.w) X.A (call (.builtin "repr") [u]) (EP X pins σ Q) X.xe s := by
  obtain ⟨h1, h3, h4⟩ := of_gd ho
  obtain ⟨as, rd, na⟩ := rep_readsT I hs hK sm d x u q rx hd ru
  have hu := hr.units
  have fin : ∀ (h' : Heap) (t : Tok) (tk : Nat), (∀ b o, s.heap.get? b = some o → h'.get? b = some o) → EP X pins σ Q (.str q.shown t) { s with heap := h', toks := tk } := fun h' t tk kp => ⟨.str _, H, I.kept kp, ⟨_, rfl⟩, h⟩
  cases rd with
  | none => exact PySem.P.repr_of_none ⟨.str _, H, I.tok _, ⟨_, rfl⟩, h⟩
  | bool b => exact PySem.P.repr_of_bool ⟨.str _, H, I.tok _, ⟨_, rfl⟩, h⟩
  | int i t => exact PySem.P.repr_of_int (of_decide_eq_true h1) ⟨.str _, H, I.tok _, ⟨_, rfl⟩, h⟩
  | str y t => exact PySem.P.repr_of_str ⟨.str _, H, I.tok _, ⟨_, rfl⟩, h⟩ h4
  | list a1 a2 a3 a4 => exact repr_of_reads' (.list a1 a2 a3 a4) h1 (fun _ => na) hr.gu (by omega) (fun _ _ e => e) (fun h' u tk kp => fin h' u tk kp) h4
  | tuple a1 a2 a3 a4 => exact repr_of_reads' (.tuple a1 a2 a3 a4) h1 (fun _ => na) hr.gu (by omega) (fun _ _ e => e) (fun h' u tk kp => fin h' u tk kp) h4
  | dict a1 a2 a3 a4 a5 => exact repr_of_reads' (.dict a1 a2 a3 a4 a5) h1 (fun _ => na) hr.gu (by omega) (fun _ _ e => e) (fun h' u tk kp => fin h' u tk kp) h4
theorem b_reprT {k : Nat} (sm : SmK X.K) (hr : Room k X.A) (hg : Gl X "repr") (hm : X.mg "repr" = none) (ha : DI M W X e fa) (hK : X.K = M.K := by rfl) (he : starEach (e :: []) X.env = (false, eval e X.env) :: starEach [] X.env := by rfl) (hpl : (backTo pos (starEach [] X.env)).any (·.1) = false := by rfl) : DI M W X (.Call (.Name "repr" p) [e] [] pos) (fReprT fa) := by
  obtain ⟨t, pt, ha⟩ := ha
  let r : List V → Hp → VK → Prop := fun xs H Q => ∃ (F : Hp) (d : D) (x : V) (q : PyData), xs = [x] ∧ Same F H ∧ rep M F d x ∧ toPt d = some q ∧ shOkD q = true ∧ Q (.str q.shown) H
  have cr : CallR X (.builtin "repr") r := by
    rintro pins s σ H xs us Q I rv ⟨F, d, x, q, rfl, hs, rx, hd, ho, h⟩
    obtain ⟨u, rfl, ru⟩ := vals1 rv
    exact call_reprT hr hs hK sm rx hd ho I ru h
  refine ⟨_, pe_callB cr hg hm bt_repr (pa_cons pt pa_nil he) (by decide) (by decide) he hpl, fun c F H σ δ Q ok post => ?_⟩
  refine ha c F H σ δ _ ok (Post.bind post fun d δ1 v F1 H1 _ s1 ok1 rr post => ?_)
  unfold gReprT at post
  split at post
  · rename_i x q
    split at q
    · rename_i p' hp'
      split at q
      · rename_i hsh
        cases q
        exact ⟨F1, d, v, p', rfl, ok1.same, rr, hp', hsh, post.ok ok1 (rep_str' _)⟩
      · cases q
    · cases q
  · exact post.elim
end
end
end TS

namespace TS
open PySem PySem.Spec PyProof.Rows L2
noncomputable section
def zip3D : List D → List D → List D → List D
  | a :: as, b :: bs, c :: cs => .tup [a, b, c] :: zip3D as bs cs
  | _, _, _ => []
section
variable {M : Gm} {W : WX} {X : Cx} {F : Hp}
def itZip3 (f g h : FD) : FA := fun δ => (f δ).bind fun d δ => (g δ).bind fun d' δ => (h δ).bind fun d'' δ => match d, d', d'' with
  | .lst m, .lst n, .lst k => .ok (zip3D m n k) δ
  | _, _, _ => .bad
end
end
end TS

namespace TS
open PySem L2
noncomputable section
def nSlot : D ⊕ OB → R
  | .inl d => .imm d
  | .inr o => .own o
def tTup2N (i j : Nat) : R → Sl → SR := fun r δ => match r with
  | .nst true [x, y] => if i = j then .bad else .nx ((δ.set i (some (nSlot x))).set j (some (nSlot y)))
  | _ => .bad
section
variable {M : Gm} {W : WX} {X : Cx} {c : Cn M} {F H : Hp} {σ : St} {δ : Sl}
end
end
end TS

namespace TS
open PySem L2 PySem.Spec PyProof.Rows
noncomputable section
section
variable {X : Cx} {pins : List (Addr × Obj)} {σ : L2.St} {H HZ : Hp} {s s1 : Shared}
end
section
variable {X : Cx} {W : WX} {M : Gm}
end
end
end TS

namespace TS
open PySem L2
noncomputable section
section
variable {X : Cx} {M : Gm} {W : WX}
end
end
end TS

namespace TS
open PySem L2
noncomputable section
structure RoomQ (k : Nat) (A : Around) : Prop where
  dp : A.depth + 3 * k + 5 < recursionLimit
  un : A.units + 16 * k + 200 < cLine
  gu : A.guards = some []
theorem RoomQ.mono {j k : Nat} {A : Around} (r : RoomQ k A) (h : j ≤ k) : RoomQ j A := ⟨by have := r.dp; omega, by have := r.un; omega, r.gu⟩
theorem RoomQ.deeper {k : Nat} {A : Around} (r : RoomQ (k + 1) A) (env : Env) : RoomQ k (A.deeper env) :=
  ⟨by have := r.dp; show A.depth + 1 + 3 * k + 5 < _; omega, by have := r.un; show A.units + 3 + 16 * k + 200 < _; omega, r.gu⟩
theorem RoomQ.in1 {k : Nat} {A : Around} (r : RoomQ (k + 1) A) : RoomQ k A.in1 :=
  ⟨by have := r.dp; show A.depth + 3 * k + 5 < _; omega, by have := r.un; show A.units + 1 + 16 * k + 200 < _; omega, r.gu⟩
theorem RoomQ.depth {k : Nat} {A : Around} (r : RoomQ k A) : A.depth < recursionLimit := by have := r.dp; omega
theorem RoomQ.of {k : Nat} {A A0 : Around} (r : Room k A0) (e0 : A.depth = A0.depth) (e1 : A.units = A0.units) (e2 : A.guards = A0.guards) : RoomQ k A := ⟨by rw [e0]; exact r.lo.dp, by rw [e1]; exact r.lo.un, by rw [e2]; exact r.gu⟩
def FnRQ (P : Program) (w : World) (K : PySem.W.Frag) (mg : Str → Option Value) (base : Heap) (CX : CXT) (k : Nat) (f : Addr) (sp : Sp) : Prop :=
  ∀ (A : Around) (outer : List Env) (s : Shared) (H : Hp) (us : List Value) (vs : List V) (Q : VK) (E : XK), RoomQ k A → Env0 P w K mg base A outer s H → Vals vs us → sp vs H Q E → codeAny (model P w) A (.call (.ref f) ⟨us, []⟩) (CR CX outer P w H s Q E) s
theorem FnRQ.mono {P : Program} {w : World} {K : PySem.W.Frag} {mg : Str → Option Value} {base : Heap} {CX : CXT} {j k : Nat} {f : Addr} {sp : Sp} (F : FnRQ P w K mg base CX j f sp) (h : j ≤ k) : FnRQ P w K mg base CX k f sp := fun A outer s H us vs Q E hr e0 => F A outer s H us vs Q E (hr.mono h) e0
section
variable {P : Program} {w : World} {K : PySem.W.Frag} {mg : Str → Option Value} {base : Heap} {CX : CXT} {j k : Nat} {f : Addr} {fd : FuncData} {ps : List Str} {sp : Sp}
end
section
variable {X : Cx} {M : Gm} {W : WX} {e : Expr} {fe : FD} {p pos : Pos}
variable {q : Cau}
end
end
end TS

namespace TS
open PySem L2 PySem.W PySem.Spec PyProof.Rows
noncomputable section
def EnSt (h : Heap) (e it l S : Addr) (i : Nat) : Prop :=
  h.IsListIter it l i ∧ e ≠ it ∧ ((∃ old, IsEnum h e it ((i : Nat) : Int) old) ∨ ∃ old T f oT, IsEnumHeld h e it ((i : Nat) : Int) old T f ∧ h.get? T = some oT ∧ T ≠ e ∧ T ≠ it ∧ T ≠ S)
theorem EnSt.keep {h h' : Heap} {e it l S : Addr} {i : Nat} (x : EnSt h e it l S i) (hk : ∀ b o, b ≠ S → h.get? b = some o → h'.get? b = some o) (hI : it ≠ S) (hE : e ≠ S) : EnSt h' e it l S i := by
  obtain ⟨h1, h2, h3⟩ := x
  refine ⟨h1.at fun o q => hk it o hI q, h2, ?_⟩
  rcases h3 with ⟨old, q⟩ | ⟨old, T, f, oT, q, a, b, c, d⟩
  · exact .inl ⟨old, hk _ _ hE q⟩
  · exact .inr ⟨old, T, f, oT, hk _ _ hE q, hk _ _ d a, b, c, d⟩
section
variable {prog : Program} {w : World} {A : Around} {E : Value → Shared → Prop} {s : Shared}
end
section
variable {prog : Program} {w : World} {A : Around} {s : Shared} {R : Result → Shared → Prop} {us : List Value}
end
section
variable {prog : Program} {w : World} {A : Around} {E : Value → Shared → Prop} {s : Shared} {us : List Value} {e it l : Addr}
end
section
variable {X : Cx} {a : Expr} {ta : TE} {p q2 pos pos2 : Pos}
variable {M : Gm} {W : WX}
def fLEnum (f : FD) : FE := fun δ => (f δ).bind fun d δ => match d with
  | .lst ds => .ok (.own (.l (enumD 0 ds))) δ
  | _ => .bad
end
end
end TS

namespace TS
open PySem L2
noncomputable section
section
variable {M : Gm} {c : Cn M} {W : WX} {X : Cx} {tg e : Expr} {F F1 H H1 : Hp} {σ σ2 : L2.St} {δ : Sl}
def Unal (σ : L2.St) (δ : Sl) (p : Addr) : Prop := ∀ (i : Nat) (r : R), δ[i]? = some (some r) → r.mu = true → σ[i]? ≠ some (some (V.ref p))
theorem wipeD_outN : ∀ {vs : List Nat} {i : Nat} {δ : Sl}, i ∉ vs → (wipeD δ vs)[i]? = δ[i]?
  | [], _, _, _ => rfl
  | v :: vs, i, δ, h => by
    simp only [List.mem_cons, not_or] at h
    unfold wipeD
    rw [List.getElem?_set_ne (Ne.symm h.1)]
    exact wipeD_outN h.2
theorem Unal.wipe {vs : List Nat} {p : Addr} (hw : L2.wipe σ2 vs = L2.wipe σ vs) (h : Unal σ2 δ p) : Unal (L2.wipe σ vs) (wipeD δ vs) p := fun i r e m z => by
  rw [← hw] at z
  obtain ⟨z1, z2⟩ := wipe_some z
  rw [wipeD_outN z2] at e
  exact h i r e m z1
end
section
variable {M : Gm} {W : WX} {X : Cx} {tg : Expr}
end
end
end TS

namespace TS
open PySem L2 PySem.W PySem.Spec PyProof.Rows
noncomputable section
section
variable {prog : Program} {w : World} {A : Around} {E : Value → Shared → Prop} {s : Shared} {r d : Addr} {es : Array DictEntry} {ep : Nat}
end
section
variable {X : Cx} {e : Expr} {td : TE} {p apos cpos pos : Pos}
variable {M : Gm} {W : WX}
def fLItems (f : FD) : FE := fun δ => (f δ).bind fun d δ => match d with
  | .dK ks ds => .ok (.own (.l (zipD (ks.map keyD) ds))) δ
  | .dT ks ds => .ok (.own (.l (zipD (ks.map keysD) ds))) δ
  | _ => .bad
end
end
end TS

namespace TS
open PySem L2 PySem.Spec PyProof.Rows
noncomputable section
section
variable {prog : Program} {w : World} {K : Type} [DecidableEq K] {knd : HeapKind prog w K}
end
section
variable {X : Cx} {pins : List (Addr × Obj)} {σ : L2.St} {H : Hp} {s : Shared} {a b : Addr} {kvs : List (List Key × V)} {k : List Key} {v : V}
end
section
variable {X : Cx} {o e : Expr} {apos cpos : Pos} {td ty : TE}
variable {M : Gm} {W : WX}
def dropD {κ : Type} [DecidableEq κ] (k : κ) : List κ → List D → List κ × List D
  | k' :: ks, d :: ds => if k' = k then dropD k ks ds else (k' :: (dropD k ks ds).1, d :: (dropD k ks ds).2)
  | _, _ => ([], [])
def popOB : OB → D → Option (D × OB)
  | .dK ks ds, k => (keyOf k).bind fun k => (lookD ks ds k).map fun d => (d, .dK (dropD k ks ds).1 (dropD k ks ds).2)
  | .dT ks ds, .tup kds => (keysOf kds).bind fun k => (lookD ks ds k).map fun d => (d, .dT (dropD k ks ds).1 (dropD k ks ds).2)
  | _, _ => none
def dicO : OB → Bool
  | .dK _ _ => true
  | .dT _ _ => true
  | _ => false
def dicR (δ : Sl) (x : Nat) : Bool := match δ[x]? with
  | some (some (.own o)) => dicO o
  | some (some (.brw o)) => dicO o
  | _ => false
def fPopD (x : Nat) (fi : FD) : FD := fun δ => if dicR δ x then (fi δ).bind fun i δ1 => match δ1[x]? with
  | some (some (.own o)) => (match popOB o i with
    | some (d, o') => .ok d (δ1.set x (some (.own o')))
    | none => .bad)
  | some (some (.brw o)) => (match popOB o i with
    | some (d, o') => .ok d (δ1.set x (some (.brw o')))
    | none => .bad)
  | _ => .bad else .bad
end
end
end TS

namespace TS
open PySem L2
noncomputable section
section
variable {M : Gm} {F : Hp}
end
section
variable {M : Gm} {P : Program} {w : World} {mg : Str → Option Value} {base : Heap} {k n : Nat} {ks ps : List Str} {f : Addr} {fm : Fm} {fd : FuncData} {ix : List Nat} {dd : List D} {mz : List V} {mv : List Value}
end
end
end TS

namespace TS
open PySem L2 PyProof.Rows
noncomputable section
def intsK : List D → Option (List Int)
  | [] => some []
  | .int i :: ds => (intsK ds).map fun is => i :: is
  | _ :: _ => none
section
variable {M : Gm} {F H : Hp}
theorem reps_intsK : ∀ {ds : List D} {vs : List V} {ns : List Int}, reps M F ds vs → intsK ds = some ns → vs = ns.map V.int
  | [], vs, ns, h, e => by unfold reps at h; cases e; exact h
  | d :: ds, vs, ns, h, e => by
    unfold reps at h
    obtain ⟨v, r, rfl, h1, h2⟩ := h
    cases d <;> try (cases e; done)
    rename_i i
    unfold intsK at e
    obtain ⟨is, e1, rfl⟩ := Option.map_eq_some_iff.mp e
    unfold rep at h1
    rw [h1, reps_intsK h2 e1]; rfl
end
def kTupK (K : PySem.W.Frag) (x : V) (H : Hp) (Q : VK) : Prop :=
  ∃ p xs, x = .ref p ∧ SqL K H p xs ∧ ∀ q (o : Obj), H q = none → o.dict = none → Q (.ref q) (upd H q (.frz o (.tup xs)))
section
variable {X : Cx} {a : Expr} {ta : TE}
theorem rl_tupleK (pins : List (Addr × Obj)) (s : Shared) (σ : L2.St) (H : Hp) (x : V) (v : Value) (Q : VK) (I : Inv X pins σ H s) (r : RelV x v) (h : kTupK X.K x H Q) :
    wpAny (model X.prog X.w) X.A (call (.type "tuple") [v]) (EP X pins σ Q) X.xe s := by
  obtain ⟨p, xs, rfl, hs, q⟩ := h
  obtain rfl : v = .ref p := r
  obtain ⟨its, rv, pl, hz⟩ := I.list hs
  refine call_tuple_list pl.isList (fun h' hk => ?_) (by rw [List.size_toArray, ← rv.length]; exact hz)
  have I1 : Inv X pins σ H { s with heap := h' } := I.kept (t' := s.toks) hk
  let o : Obj := { cls := .type "tuple", data := .seq its.toArray }
  have I2 : Inv X pins σ (upd H h'.objs.size (.frz o (.tup xs))) { s with heap := h'.push o } :=
    I1.laid (t' := s.toks) (fun b o e => Heap.get?_push_of_some _ e) (Nat.le_refl _) (show ObjOk X.prog X.w _ _ _ (.frz o (.tup xs)) from ⟨Heap.get?_push_size _ rfl, hz, its, rv, IsTup.new _ _⟩)
  exact ⟨.ref h'.objs.size, upd H h'.objs.size (.frz o (.tup xs)), I2, rfl, q _ o (I1.hok.fresh (Nat.le_refl _)) rfl⟩
theorem pe_tupleK {p pos : Pos} (hg : Gl X "tuple") (hm : X.mg "tuple" = none) (ha : PE X a ta) (na : starEach [a] X.env = (false, eval a X.env) :: starEach [] X.env := by rfl) :
    PE X (.Call (.Name "tuple" p) [a] [] pos) (tThen ta (kTupK X.K)) := by
  refine ⟨fun pins s σ H Q I h => ?_⟩
  exact Call_ (ld_blt I hg hm boot_tuple (PyProof.Rows.callWith_type1 (one_arg ha I h (fun v s2 x H2 I2 r q => rl_tupleK pins s2 σ H2 x v Q I2 r q) na) na))
end
section
variable {M : Gm} {c : Cn M}
theorem new_tupK {F H : Hp} {σ : L2.St} {δ : Sl} (ok : Ok c F H σ δ) {p : Addr} {o : Obj} (hp : H p = none) (hd : o.dict = none) {ns : List Int} : ∃ F', Same F F' ∧ Ok c F' (upd H p (.frz o (.tup (ns.map V.int)))) σ δ ∧ rep M F' (.ktp ns) (.ref p) := by
  have ok1 : Ok c F (upd H p (.frz o (.tup (ns.map V.int)))) σ δ := ok.alloc hp
  have hF := ok.f hp
  have g : Same F (upd F p (.frz o (.tup (ns.map V.int)))) := fun b o e => by rw [upd_ne (ne_of_none e hF)]; exact e
  refine ⟨upd F p (.frz o (.tup (ns.map V.int))), g, ⟨fun b o e => ?_, ok.grow.trans g, fun b e1 e2 => ?_, ok1.kept, ok1.ioh, ok1.tb.frz upd_same rfl, ok.len, fun i r e => ?_, ok.dist⟩, ?_⟩
  · by_cases q : b = p
    · subst q; rw [upd_same] at e ⊢; exact e
    · rw [upd_ne q] at e ⊢; exact ok.same b o e
  · have q : b ≠ p := fun z => e1 (z ▸ ok.h0 hp)
    rw [upd_ne q]; exact ok.nofz b e1 e2
  · obtain ⟨v, e1, e2⟩ := ok1.slot i r e
    refine ⟨v, e1, ?_⟩
    cases r with
    | imm d => exact rep_mono g _ _ e2
    | own o =>
      obtain ⟨a', rfl, k1, k2, k3⟩ := e2
      have q : a' ≠ p := fun z => ok.fresh hp i _ e rfl (by rw [e1, z])
      exact ⟨a', rfl, by rw [upd_ne q]; exact k1, k2, obAt_mono g rfl k3⟩
    | brw o =>
      obtain ⟨a', rfl, k1, k2, k3⟩ := e2
      have q : a' ≠ p := fun z => ok.fresh hp i _ e rfl (by rw [e1, z])
      exact ⟨a', rfl, by rw [upd_ne q]; exact k1, k2, obAt_mono g rfl k3⟩
    | nst tp ps => exact slot_nst g e2
  · unfold rep
    exact ⟨p, rfl, .inr ⟨o, upd_same, hd⟩⟩
end
def fTupK (fe : FD) : FD := fun δ => (fe δ).bind fun d δ1 => match d with
  | .lst ds => (match intsK ds with
    | some ns => .ok (.ktp ns) δ1
    | none => .bad)
  | _ => .bad
def fIndexK (fo fe : FD) : FD := fun δ => (fo δ).bind fun d δ1 => match d with
  | .ktp ns => (fe δ1).bind fun e δ2 => (match e with
    | .int i => if i ∈ ns then .ok (.int (ns.idxOf i : Nat)) δ2 else .bad
    | _ => .bad)
  | _ => .bad
def tIndexK (K : PySem.W.Frag) (to te : TE) : TE := fun σ H Q => to σ H fun x H1 => ∃ (a : Addr) (ns : List Int), x = V.ref a ∧ ITup K H1 a ns ∧ te σ H1 fun y H2 => ∃ i : Int, y = V.int i ∧ i ∈ ns ∧ ITup K H2 a ns ∧ Q (V.int (ns.idxOf i : Nat)) H2
theorem ints_are : ∀ {ns : List Int} {its : List Value}, Vals (ns.map V.int) its → IntsAre its ns
  | [], [], _ => .nil
  | n :: ns, _, .cons r h => by
    obtain ⟨t, rfl⟩ := r
    exact .cons n t (ints_are h)
section
variable {X : Cx} {o e : Expr} {apos cpos : Pos} {to te : TE}
theorem itup_at {pins : List (Addr × Obj)} {σ : L2.St} {H : Hp} {s : Shared} {a : Addr} {ns : List Int} (I : Inv X pins σ H s) (h : ITup X.K H a ns) : ∃ its : List Value, Vals (ns.map V.int) its ∧ IsTup s.heap a its.toArray ∧ ∃ ob, s.heap.get? a = some ob ∧ ob.dict = none := by
  rcases h with ⟨o, its, n, h1, h2, h3, h4, h5, h6⟩ | ⟨o, h, hd⟩
  · exact ⟨its.toList, h5, ⟨o, I.kIn a o h1, h2, n, by simpa using h3⟩, o, I.kIn a o h1, h6⟩
  · obtain ⟨h1, _, its, h2, h3⟩ := (I.hok a _ h : ObjOk X.prog X.w H s.heap a (.frz o (.tup (ns.map V.int))))
    exact ⟨its, h2, h3, o, h1, hd⟩
theorem pe_indexK (ho : PE X o to) (he : PE X e te) (m : M1 X o "index" apos e cpos) : PE X (.Call (.Attribute o "index" apos) [e] [] cpos) (tIndexK X.K to te) := by
  refine ⟨fun pins s σ H Q I h => ?_⟩
  refine wpAny_Call_method m.base m.few m.line PySem.F.plainAttrs_tuple PySem.F.slot_tuple_index PySem.F.type_tuple_index (thn (ho.run pins s σ H _ I h) fun u s1 ⟨x, H1, I1, rx, a, ns, ex, hA, q1⟩ => ?_)
  subst ex
  obtain rfl : u = Value.ref a := rx
  obtain ⟨its, hv, ht, ob, hg, hd⟩ := itup_at I1 hA
  refine ⟨ht.typeIs, fun b q => by cases q; exact ⟨ob, hg, hd⟩, ?_⟩
  rw [m.trees]
  refine Calls.callWith_builtin rfl (Calls.evalArgs_plain (Calls.spliced_cons (thn (he.run pins s1 σ H1 _ I1 q1) fun iv s2 ⟨y, H2, I2, ry, i, ey, hi, hA2, q2⟩ => Calls.spliced_nil ?_)))
  subst ey
  obtain ⟨t, rfl⟩ := ry
  obtain ⟨its2, hv2, ht2, _⟩ := itup_at I2 hA2
  exact PySem.SeqAt.tuple_index_ints ht2 (ints_are hv2) hi ⟨V.int (ns.idxOf i : Nat), H2, I2.tok _, ⟨_, rfl⟩, q2⟩
end
section
variable {X : Cx} {W : WX} {M : Gm}
theorem di_tupK {a : Expr} {fe : FD} {p pos : Pos} (hg : Gl X "tuple") (hm : X.mg "tuple" = none) (h : DI M W X a fe) (hK : X.K = M.K := by rfl) (na : starEach [a] X.env = (false, eval a X.env) :: starEach [] X.env := by rfl) :
    DI M W X (.Call (.Name "tuple" p) [a] [] pos) (fTupK fe) := by
  obtain ⟨t, pt, h⟩ := h
  refine ⟨_, pe_tupleK hg hm pt na, fun c F H σ δ Q ok post => h c F H σ δ _ ok (Post.bind post fun d δ1 v F1 H1 _ s ok1 r post => ?_)⟩
  split at post
  · rename_i ds
    split at post
    · rename_i ns e
      unfold ρD rep at r
      obtain ⟨p, vs, rfl, h2, h3⟩ := r
      rw [reps_intsK h3 e] at h2
      refine ⟨p, _, rfl, by rw [hK]; exact SqL.of (ok1.same _ _ h2), fun q o hq hd => ?_⟩
      obtain ⟨F', g, ok2, r2⟩ := new_tupK ok1 hq hd (ns := ns)
      exact post _ F' _ g ok2 r2
    · exact post.elim
  · exact post.elim
theorem itup_mono {K : PySem.W.Frag} {F F' : Hp} {a : Addr} {ns : List Int} (s : Same F F') (h : ITup K F a ns) : ITup K F' a ns := h.imp id fun ⟨o, h1, h2⟩ => ⟨o, s _ _ h1, h2⟩
theorem di_indexK {o e : Expr} {apos cpos : Pos} {fo fe : FD} (ho : DI M W X o fo) (he : DI M W X e fe) (m : M1 X o "index" apos e cpos) (hK : X.K = M.K := by rfl) :
    DI M W X (.Call (.Attribute o "index" apos) [e] [] cpos) (fIndexK fo fe) := by
  obtain ⟨to, po, ho⟩ := ho
  obtain ⟨te, pe, he⟩ := he
  refine ⟨_, pe_indexK po pe m, fun c F H σ δ Q ok post => ho c F H σ δ _ ok (Post.bind post fun d δ1 v F1 H1 _ s ok1 r post => ?_)⟩
  cases d <;> try exact post.elim
  · rename_i ns _
    unfold ρD rep at r
    obtain ⟨a, rfl, ha⟩ := r
    refine ⟨a, ns, rfl, by rw [hK]; exact itup_mono ok1.same ha, he c F1 H1 σ δ1 _ ok1 (Post.bind post fun d2 δ2 v2 F2 H2 _ s2 ok2 r2 post => ?_)⟩
    split at post
    · rename_i i _
      split at post
      · rename_i hi
        unfold ρD rep at r2
        exact ⟨i, r2, hi, by rw [hK]; exact itup_mono (s2.trans ok2.same) ha, post.ok ok2 (rep_int' _)⟩
      · exact post.elim
    · exact post.elim
end
end
end TS

namespace TS
open PySem L2
noncomputable section
section
variable {α β : Type} (δ : Sl)
@[simp] theorem Res.bind_bad (k : α → Sl → Res β) : (Res.bad : Res α).bind k = .bad := rfl
@[simp] theorem Res.bindS_bad (k : α → Sl → SR) : (Res.bad : Res α).bindS k = .bad := rfl
@[simp] theorem SR.bind_bk (k : Sl → SR) : (SR.bk δ).bind k = .bk δ := rfl
@[simp] theorem SR.bind_ct (k : Sl → SR) : (SR.ct δ).bind k = .ct δ := rfl
@[simp] theorem SR.bind_bad (k : Sl → SR) : (SR.bad).bind k = .bad := rfl
@[simp] theorem ap_kD (d : D) : kD d δ = .ok d δ := id rfl
@[simp] theorem ap_toE (f : FD) : toE f δ = (f δ).bind fun d δ => .ok (.imm d) δ := id rfl
@[simp] theorem ap_frz (f : FE) : frz f δ = (f δ).bind fun r δ => match r with | .imm d => .ok d δ | .own o => .ok o.toD δ | .brw _ => .bad | .nst _ _ => .bad := id rfl
@[simp] theorem ap_fBin (g : D → D → Option R) (fa fb : FD) : fBin g fa fb δ = (fa δ).bind fun x δ1 => (fb δ1).bind fun y δ2 => match g x y with | some z => .ok z δ2 | none => .bad := id rfl
@[simp] theorem ap_fBinV (g : D → D → Option R) (i : Nat) (fb : FD) : fBinV g i fb δ = if there δ i then (fb δ).bind fun y δ1 => (vP i δ1).bind fun x δ2 => match g x y with | some z => .ok z δ2 | none => .bad else .bad := id rfl
@[simp] theorem ap_aNil : aNil δ = .ok [] δ := id rfl
@[simp] theorem ap_aCons (f : FD) (g : FA) : aCons f g δ = (f δ).bind fun d δ1 => (g δ1).bind fun ds δ2 => .ok (d :: ds) δ2 := id rfl
@[simp] theorem ap_aOne (f : FD) : aOne f δ = (f δ).bind fun d δ1 => .ok [d] δ1 := id rfl
@[simp] theorem ap_fCal (g : List D → Option R) (fa : FA) : fCal g fa δ = (fa δ).bind fun ds δ1 => match g ds with | some z => .ok z δ1 | none => .bad := id rfl
@[simp] theorem ap_fTst (f : FE) : fTst f δ = (f δ).bind fun r δ => match r with | .imm (.bl b) => .ok b δ | _ => .bad := id rfl
@[simp] theorem ap_fNot (f : FT) : fNot f δ = (f δ).bind fun b δ => .ok (!b) δ := id rfl
@[simp] theorem ap_fAnd (f g : FT) : fAnd f g δ = (f δ).bind fun b δ => if b then g δ else .ok false δ := id rfl
@[simp] theorem ap_fOr (f g : FT) : fOr f g δ = (f δ).bind fun b δ => if b then .ok true δ else g δ := id rfl
@[simp] theorem ap_fAndV (f : FD) (g : FE) : fAndV f g δ = (f δ).bind fun d δ => match d with | .bl true => g δ | .bl false => .ok (.imm (.bl false)) δ | _ => .bad := id rfl
@[simp] theorem ap_fOrV (f : FD) (g : FE) : fOrV f g δ = (f δ).bind fun d δ => match d with | .bl true => .ok (.imm (.bl true)) δ | .bl false => g δ | _ => .bad := id rfl
@[simp] theorem ap_fNotV (f : FD) : fNotV f δ = (f δ).bind fun d δ => match d with | .bl b => .ok (.bl (!b)) δ | _ => .bad := id rfl
@[simp] theorem ap_fIfE (f : FT) (g h : FE) : fIfE f g h δ = (f δ).bind fun b δ => if b then g δ else h δ := id rfl
@[simp] theorem ap_fLst (fa : FA) : fLst fa δ = (fa δ).bind fun ds δ => if ds.length ≤ 16777216 then .ok (.own (.l ds)) δ else .bad := id rfl
@[simp] theorem ap_fTup (fa : FA) : fTup fa δ = (fa δ).bind fun ds δ => if ds.length ≤ 16777216 then .ok (.tup ds) δ else .bad := id rfl
@[simp] theorem ap_fSl (fe : FD) (fl fh : FO) : fSl fe fl fh δ = (fe δ).bind fun d δ => (fl δ).bind fun lo δ => (fh δ).bind fun hi δ => match gSl d lo hi with | some r => .ok r δ | none => .bad := id rfl
@[simp] theorem ap_oNone : oNone δ = .ok none δ := id rfl
@[simp] theorem ap_oSome (f : FD) : oSome f δ = (f δ).bind fun d δ => match d with | .int i => .ok (some i) δ | _ => .bad := id rfl
@[simp] theorem ap_fUnI (g : Int → Int) (fe : FD) : fUnI g fe δ = (fe δ).bind fun d δ => match d with | .int i => .ok (.int (g i)) δ | _ => .bad := id rfl
@[simp] theorem ap_fOwn (f : Fm) (fa : FA) : fOwn f fa δ = (fa δ).bind fun ds δ1 => outE (f none ds) δ1 := id rfl
@[simp] theorem outE_ok (r : R) (io : Option OB) : outE (.ok r io) δ = .ok r δ := rfl
@[simp] theorem ap_sSeq (f g : FS) : sSeq f g δ = (f δ).bind g := id rfl
@[simp] theorem ap_sNil : sNil δ = .nx δ := id rfl
@[simp] theorem ap_sRet (f : FE) : sRet f δ = (f δ).bindS fun r δ1 => .rt r δ1 := id rfl
@[simp] theorem ap_sExpr (f : FE) : sExpr f δ = (f δ).bindS fun _ δ1 => .nx δ1 := id rfl
@[simp] theorem ap_sIf (t : FT) (f g : FS) : sIf t f g δ = (t δ).bindS fun b δ1 => if b then f δ1 else g δ1 := id rfl
@[simp] theorem ap_sAsg (f : FE) (h : R → Sl → SR) : sAsg f h δ = (f δ).bindS h := id rfl
@[simp] theorem ap_tNameI (i : Nat) (d : D) : tName i (.imm d) δ = .nx (δ.set i (some (.imm d))) := id rfl
@[simp] theorem ap_tNameO (i : Nat) (d : OB) : tName i (.own d) δ = .nx (δ.set i (some (.own d))) := id rfl
@[simp] theorem ap_tsNil : tsNil [] δ = .nx δ := id rfl
@[simp] theorem ap_tsCons (h : R → Sl → SR) (hs : List D → Sl → SR) (d : D) (ds : List D) : tsCons h hs (d :: ds) δ = (h (.imm d) δ).bind (hs ds) := id rfl
@[simp] theorem ap_tTup (n : Nat) (hs : List D → Sl → SR) (ds : List D) : tTup n hs (.imm (.tup ds)) δ = if ds.length = n then hs ds δ else .bad := id rfl
@[simp] theorem ap_sFor (fi : FA) (tg : R → Sl → SR) (body : FS) : sFor fi tg body δ = (fi δ).bindS fun ds δ1 => forL tg body ds δ1 := id rfl
@[simp] theorem ap_itSeq (f : FD) : itSeq f δ = (f δ).bind fun d δ => match d with | .lst ds => .ok ds δ | _ => .bad := id rfl
@[simp] theorem ap_itTup (f : FD) : itTup f δ = (f δ).bind fun d δ => match d with | .tup ds => .ok ds δ | .ktp ns => .ok (ns.map D.int) δ | _ => .bad := id rfl
@[simp] theorem ap_itEnum (f : FD) : itEnum f δ = (f δ).bind fun d δ => match d with | .lst ds => .ok (enumD 0 ds) δ | _ => .bad := id rfl
@[simp] theorem ap_sPar (i j : Nat) (f g : FE) : sPar i j f g δ = (f δ).bindS fun r δ1 => match r with | .brw _ => .bad | .nst _ _ => .bad | r => (g δ1).bindS fun r' δ2 => match r' with | .brw _ => .bad | .nst _ _ => .bad | r' => .nx ((δ2.set i (some r)).set j (some r')) := id rfl
@[simp] theorem ap_fFld (ix : Nat → Option Nat) (fo : FD) : fFld ix fo δ = (fo δ).bind fun d δ1 => match d with | .obj n vs => (match ix n with | some j => (match vs[j]? with | some d => .ok d δ1 | none => .bad) | none => .bad) | _ => .bad := id rfl
@[simp] theorem ap_fMeth (tab : Nat → Option Fm) (fo : FD) (fa : FA) : fMeth tab fo fa δ = (fo δ).bind fun d δ1 => match d with | .obj n vs => (match tab n with | some f => (fa δ1).bind fun ds δ2 => outE (f none (.obj n vs :: ds)) δ2 | none => .bad) | _ => .bad := id rfl
@[simp] theorem ap_fIsi (tab : Tg → Option Bool) (fe : FD) : fIsi tab fe δ = (fe δ).bind fun d δ => match tagD d with | some t => (match tab t with | some b => .ok (.bl b) δ | none => .bad) | none => .bad := id rfl
@[simp] theorem ap_vI (i : Nat) : vI i δ = match δ[i]? with | some (some (.imm d)) => .ok d δ | some (some (.own o)) => .ok o.toD (δ.set i (some (.imm o.toD))) | _ => .bad := id rfl
@[simp] theorem ap_vP (i : Nat) : vP i δ = match δ[i]? with | some (some (.imm d)) => .ok d δ | some (some (.own o)) => .ok o.toD δ | some (some (.brw o)) => .ok o.toD δ | _ => .bad := id rfl
@[simp] theorem ap_vR (i : Nat) : vR i δ = match δ[i]? with | some (some (.imm d)) => .ok (.imm d) δ | some (some (.own o)) => .ok (.own o) (δ.set i none) | _ => .bad := id rfl
@[simp] theorem ap_there (i : Nat) : there δ i = match δ[i]? with | some (some _) => true | _ => false := id rfl
@[simp] theorem ap_tSub (x : Nat) (fi : FD) (d : D) : tSub x fi (.imm d) δ = match δ[x]? with | some (some r0) => if r0.mu then (fi δ).bindS fun i δ1 => match δ1[x]? with | some (some (.own o)) => (match setOB o i d with | some o' => .nx (δ1.set x (some (.own o'))) | none => .bad) | some (some (.brw o)) => (match setOB o i d with | some o' => .nx (δ1.set x (some (.brw o'))) | none => .bad) | _ => .bad else .bad | _ => .bad := id rfl
end
@[simp] theorem ap_tLstI (n : Nat) (hs : List D → Sl → SR) (ds : List D) (δ : Sl) : tLst n hs (.imm (.lst ds)) δ = if ds.length = n then hs ds δ else .bad := id rfl
@[simp] theorem ap_tLstO (n : Nat) (hs : List D → Sl → SR) (ds : List D) (δ : Sl) : tLst n hs (.own (.l ds)) δ = if ds.length = n then hs ds δ else .bad := id rfl
@[simp] theorem ap_fMethK (tab : Nat → Option Fm) (n l : Nat) (fo : FD) (fa fk : FA) (δ : Sl) : fMethK tab n l fo fa fk δ = (fo δ).bind fun d δ1 => match d with
  | .obj c vs => (match tab c with
    | some f => (fa δ1).bind fun ds δ2 => (fk δ2).bind fun es δ3 => if ds.length = n ∧ es.length = l then outE (f none (.obj c vs :: (ds ++ es))) δ3 else .bad
    | none => .bad)
  | _ => .bad := id rfl
@[simp] theorem ap_fBinO (tab : Nat → Option Fm) (fa fb : FD) (δ : Sl) : fBinO tab fa fb δ = (fa δ).bind fun x δ1 => (fb δ1).bind fun y δ2 => match x, y with
  | .obj n vs, .obj m ws => if n = m then (match tab n with
    | some f => outO (f none [.obj n vs, .obj m ws]) δ2
    | none => .bad) else .bad
  | _, _ => .bad := id rfl
@[simp] theorem outO_own (o : OB) (io : Option OB) (δ : Sl) : outO (.ok (.own o) io) δ = .ok (.own o) δ := rfl
@[simp] theorem ap_sPar3 (i j l : Nat) (fa : FA) (δ : Sl) : sPar3 i j l fa δ = (fa δ).bindS fun ds δ1 => match ds with | [a, b, c] => .nx (((δ1.set i (some (.imm a))).set j (some (.imm b))).set l (some (.imm c))) | _ => .bad := id rfl
@[simp] theorem ap_fOwnP (f : Fm) (fa : FA) (δ : Sl) : fOwnP f fa δ = (fa δ).bind fun ds δ1 => if ds.any D.dic then .bad else outP (f none ds) δ1 := id rfl
@[simp] theorem dic_lst (xs : List D) : D.dic (.lst xs) = false := rfl
@[simp] theorem dic_tup (xs : List D) : D.dic (.tup xs) = false := rfl
@[simp] theorem dic_scr (xs : List D) : D.dic (.scr xs) = false := rfl
@[simp] theorem dic_int (x : Int) : D.dic (.int x) = false := rfl
@[simp] theorem dic_str (x : Str) : D.dic (.str x) = false := rfl
@[simp] theorem dic_bl (x : Bool) : D.dic (.bl x) = false := rfl
@[simp] theorem dic_non : D.dic .non = false := rfl
@[simp] theorem dic_obj (c : Nat) (xs : List D) : D.dic (.obj c xs) = false := rfl
@[simp] theorem dic_cls (c : Nat) : D.dic (.cls c) = false := rfl
@[simp] theorem dic_dK (ks : List Key) (ds : List D) : D.dic (.dK ks ds) = true := rfl
@[simp] theorem dic_dT (ks : List (List Key)) (ds : List D) : D.dic (.dT ks ds) = true := rfl
@[simp] theorem outP_ok (r : R) (io : Option OB) (δ : Sl) : outP (.ok r io) δ = if flatR r then .ok r δ else .bad := rfl
@[simp] theorem flat_bl (b : Bool) : flatR (.imm (.bl b)) = true := rfl
@[simp] theorem flat_int (b : Int) : flatR (.imm (.int b)) = true := rfl
@[simp] theorem flat_non : flatR (.imm .non) = true := rfl
@[simp] theorem flat_str (x : Str) : flatR (.imm (.str x)) = true := rfl
@[simp] theorem mu_own (o : OB) : (R.own o).mu = true := rfl
@[simp] theorem mu_brw (o : OB) : (R.brw o).mu = true := rfl
@[simp] theorem mu_imm (d : D) : (R.imm d).mu = false := rfl
@[simp] theorem toD_l (xs : List D) : (OB.l xs).toD = .lst xs := rfl
@[simp] theorem toD_o (n : Nat) (xs : List D) : (OB.o n xs).toD = .obj n xs := rfl
@[simp] theorem gAdd_i (i j : Int) : gAdd (.int i) (.int j) = some (.imm (.int (i + j))) := rfl
@[simp] theorem gSub_i (i j : Int) : gSub (.int i) (.int j) = some (.imm (.int (i - j))) := rfl
@[simp] theorem gLt_i (i j : Int) : gLt (.int i) (.int j) = some (.imm (.bl (decide (i < j)))) := rfl
@[simp] theorem gLe_i (i j : Int) : gLe (.int i) (.int j) = some (.imm (.bl (decide (i ≤ j)))) := rfl
@[simp] theorem gGt_i (i j : Int) : gGt (.int i) (.int j) = some (.imm (.bl (decide (j < i)))) := rfl
@[simp] theorem gGe_i (i j : Int) : gGe (.int i) (.int j) = some (.imm (.bl (decide (j ≤ i)))) := rfl
theorem eqvI (i j : Int) : PyData.eqv (.int i) (.int j) = decide (i = j) := by
  by_cases h : i = j
  · subst h; simp [PyData.eqv]
  · simp [PyData.eqv, h]
theorem shapedI (i : Int) : SeqAt.shaped (.int i) = true := by
  first | rfl | (unfold SeqAt.shaped; simp [PyData.canLay0, PyData.depth])
@[simp] theorem gEq_i (i j : Int) : gEq (.int i) (.int j) = some (.imm (.bl (decide (i = j)))) := by
  simp [gEq, toP, eqvI, shapedI]
@[simp] theorem gNe_i (i j : Int) : gNe (.int i) (.int j) = some (.imm (.bl (!decide (i = j)))) := by
  simp [gNe, toP, eqvI, shapedI]
theorem gMod_i {i j : Int} (h : 0 < j) : gMod (.int i) (.int j) = some (.imm (.int (i % j))) := by
  simp [gI, CModB, h]
theorem log2_lt {n k : Nat} (h : n < 2 ^ k) (hk : 0 < k) : n.log2 < k := by
  by_cases h0 : n = 0
  · subst h0; simpa using hk
  · exact (Nat.log2_lt h0).mpr h
theorem gFdiv_i {i j : Int} (h : 0 < j) (h2 : j.natAbs < 2 ^ 255) : gFdiv (.int i) (.int j) = some (.imm (.int (i / j))) := by
  have := log2_lt h2 (by decide)
  have e : CDivB i j = true := gd_true ⟨h, by omega⟩
  simp [gFdiv, gOr, gI, e]
theorem gFdiv_n {i j : Int} (h : j < 0) (h2 : j.natAbs < 2 ^ 255) : gFdiv (.int i) (.int j) = some (.imm (.int (i.fdiv j))) := by
  have := log2_lt h2 (by decide)
  have e : CDivNB i j = true := gd_true ⟨h, by omega⟩
  have e2 : CDivB i j = false := by
    cases q : CDivB i j with
    | false => rfl
    | true => have := (of_gd (p := (0 < j ∧ j.natAbs.log2 < 9000)) q).1; omega
  simp [gFdiv, gOr, gI, e, e2]
theorem gMul_i {i j : Int} (h : i.natAbs < 2 ^ 255) (h2 : j.natAbs < 2 ^ 255) : gMul (.int i) (.int j) = some (.imm (.int (i * j))) := by
  have h1 := log2_lt h (by decide)
  have h3 := log2_lt h2 (by decide)
  have e : CMulB i j = true := gd_true (by omega)
  simp [gMul, gOr, gI, e]
theorem gPow_i {i j : Int} (h : 0 ≤ j) (h2 : j ≤ 1000000) (h3 : i.natAbs < 18446744073709551616) : gPow (.int i) (.int j) = some (.imm (.int (i ^ j.toNat))) := by
  have e : CPowB i j = true := gd_true ⟨h, h2, h3⟩
  simp [gI, e]
@[simp] theorem gInt_i (i : Int) : gInt [.int i] = some (.imm (.int i)) := rfl
@[simp] theorem gAbs_i (i : Int) : gAbs [.int i] = some (.imm (.int (if i < 0 then -i else i))) := rfl
@[simp] theorem gLen_l (xs : List D) : gLen [.lst xs] = some (.imm (.int xs.length)) := rfl
@[simp] theorem gLen_s (xs : List D) : gLen [.scr xs] = some (.imm (.int xs.length)) := rfl
theorem gDivmod_i {i j : Int} (h : 0 < j) (h2 : j.natAbs < 2 ^ 255) : gDivmod [.int i, .int j] = some (.imm (.tup [.int (i / j), .int (i % j)])) := by
  have := log2_lt h2 (by decide)
  have e : decide (0 < j ∧ j.natAbs.log2 < 9000) = true := decide_eq_true ⟨h, by omega⟩
  simp only [gDivmod, e, if_true]
@[simp] theorem gIx_l (xs : List D) (i : Int) : gIx (.lst xs) (.int i) = (atI xs i).map .imm := rfl
section
open PySem.Spec PyProof.Rows
variable {P : Program} {w : World} {K : PySem.W.Frag} {mg mb : Str → Option Value} {CX : CXT} {k : Nat} {fa a : Addr} {fd : FuncData} {x : Str} {sp : Sp} {s1 : Shared} {vs : List Value} {ns : List Int}
theorem law_core (KX : K.In s1.heap) (hns : s1.heap.Ns mainGlobals mg) (hb : s1.heap.Ns builtinsNs mb) (hbb : ∀ y : Str, y ≠ "__name__" → mb y = bootBuiltins y) (hlim : s1.heap.NoLimit) (hg : s1.gens = #[])
    (ha : s1.heap.get? a = some { cls := .type "list", data := .seq vs.toArray }) (hr : Room k callerA) (F : ∀ base : Heap, K.In base → base.Ns mainGlobals mg → FnOk P w K mg base CX k fa fd [x] sp)
    (hbind : ∀ (s : Shared) (u : Value), BindsTo s fd ⟨[u], []⟩ [(x, u)]) (hCX : ∀ H e s', CX [] H s1 (fun _ _ _ => False) e s' → False)
    {H : Hp} (hO : Only H) (hsp : sp [.ref a] H (fun v _ => v = .bl true) fun _ _ _ => False) (hok : HOk P w H s1.heap) (hA : ∀ b, H b ≠ none → b = a) (hK : H a ≠ none → K.lookup a = none) :
    codeAny (model P w) callerA (.call (.ref fa) ⟨[.ref a], []⟩) (fun r s' => r = .ok (.ret (.bool true)) ∧ OldK s1.heap s'.heap ∧ s'.os = s1.os ∧ AllBare s'.gens) s1 := by
  have dictN : ∀ {b : Addr} {o : Obj} {es : Array DictEntry} {ep : Nat}, s1.heap.get? b = some o → o.data = .dict es ep → H b = none := by
    intro b o es ep e d
    rcases Option.eq_none_or_eq_some (H b) with q | ⟨u, q⟩
    · exact q
    · obtain rfl : b = a := hA b (by rw [q]; exact fun z => by cases z)
      rw [ha] at e
      cases e
      cases (show Data.seq vs.toArray _ = Data.dict es ep from d)
  have nsH : ∀ {b : Addr} {m : Str → Option Value}, s1.heap.Ns b m → (hidT s1.heap H).Ns b m := by
    rintro b m ⟨o, es, ep, e, d, r⟩
    exact ⟨o, es, ep, hidT_get e (dictN e d), d, r⟩
  have kinH : K.In (hidT s1.heap H) := by
    intro b o e
    refine hidT_get (KX b o e) ?_
    rcases Option.eq_none_or_eq_some (H b) with q | ⟨u, q⟩
    · exact q
    · obtain rfl : b = a := hA b (by rw [q]; exact fun z => by cases z)
      have := hK (by rw [q]; exact fun z => by cases z)
      rw [this] at e
      cases e
  obtain ⟨mc, c1, c2⟩ := hlim
  have hmod : Mod K mg (hidT s1.heap H) := ⟨kinH, nsH hns, ⟨mb, nsH hb, hbb⟩, ⟨mc, nsH c1, c2⟩⟩
  have env : Env0 P w K mg (hidT s1.heap H) callerA [] s1 H := ⟨rfl, hmod, fun _ _ e => of_hidT e, Nat.le_of_eq (hidT_size _ _), trivial, fun b z => absurd z (List.not_mem_nil (a := b)), hok, .of_eq hg⟩
  have run := (F _ kinH (nsH hns)).run callerA [] s1 H ⟨[.ref a], []⟩ [.ref a] [.ref a] _ _ hr env (hbind s1 (.ref a)) (.cons rfl .nil) hsp
  refine codeAny_mono run ?_
  rintro (e | fl) s' z
  · exact (hCX H e s' z).elim
  · cases fl with
    | next => exact z.elim
    | brk => exact z.elim
    | cont => exact z.elim
    | ret u =>
      obtain ⟨v, H2, hos, hbare, un, hok2, rv, ev⟩ := z
      have ev : v = .bl true := ev
      rw [ev] at rv
      cases (show u = Value.bool true from rv)
      refine ⟨rfl, OldK.of_keep fun b o e => ?_, hos, hbare⟩
      rcases Option.eq_none_or_eq_some (H b) with q | ⟨u, q⟩
      · exact un.keep b o e q (fun z => absurd z (List.not_mem_nil (a := b))) (fun z => by simp at z)
      · rcases hO b with z | ⟨ob, xs, z⟩
        · rw [q] at z; cases z
        · have t1 := (hok b _ z).1
          have t2 := (hok2 b _ (un.frzs b ob _ z)).1
          rw [e] at t1
          cases t1
          exact t2
theorem law_run (KX : K.In s1.heap) (hns : s1.heap.Ns mainGlobals mg) (hb : s1.heap.Ns builtinsNs mb) (hbb : ∀ y : Str, y ≠ "__name__" → mb y = bootBuiltins y) (hlim : s1.heap.NoLimit) (hg : s1.gens = #[])
    (ha : s1.heap.get? a = some { cls := .type "list", data := .seq vs.toArray }) (hi : IntsAre vs ns) (hl : ns.length ≤ sizeLine) (hr : Room k callerA) (F : ∀ base : Heap, K.In base → base.Ns mainGlobals mg → FnOk P w K mg base CX k fa fd [x] sp)
    (hbind : ∀ (s : Shared) (u : Value), BindsTo s fd ⟨[u], []⟩ [(x, u)]) (hsp : ∀ H : Hp, Only H → SqL K H a (ns.map V.int) → sp [.ref a] H (fun v _ => v = .bl true) fun _ _ _ => False) (hCX : ∀ H e s', CX [] H s1 (fun _ _ _ => False) e s' → False) :
    codeAny (model P w) callerA (.call (.ref fa) ⟨[.ref a], []⟩) (fun r s' => r = .ok (.ret (.bool true)) ∧ OldK s1.heap s'.heap ∧ s'.os = s1.os ∧ AllBare s'.gens) s1 := by
  have rv := vals_ints hi
  have lv := hi.length
  rcases Option.eq_none_or_eq_some (K.lookup a) with hk | ⟨o, hk⟩
  · let ho : HO := .frz { cls := .type "list", data := .seq vs.toArray } (.lst (ns.map V.int))
    let H : Hp := fun b => if b = a then some ho else none
    have hH : H a = some ho := if_pos rfl
    have hn : ∀ b, b ≠ a → H b = none := fun b z => if_neg z
    have only : Only H := fun b => by
      by_cases z : b = a
      · exact .inr ⟨_, _, z ▸ hH⟩
      · exact .inl (hn b z)
    refine law_core KX hns hb hbb hlim hg ha hr F hbind hCX only (hsp H only (.inl (.inr ⟨_, hH⟩))) ?_ (fun b z => Classical.byContradiction fun y => z (hn b y)) fun _ => hk
    intro b u z
    by_cases y : b = a
    · subst y
      rw [hH] at z
      cases z
      exact ⟨ha, by rw [List.length_map]; exact hl, vs, _, rv, ha⟩
    · rw [hn b y] at z
      cases z
  · have e := KX a o hk
    rw [ha] at e
    cases e
    have only : Only (fun _ => none : Hp) := fun _ => .inl rfl
    have sq : SqL K (fun _ => none : Hp) a (ns.map V.int) := .inr ⟨_, vs.toArray, _, hk, rfl, rfl, rfl, by rw [List.size_toArray, lv]; exact hl, by simpa using rv⟩
    exact law_core KX hns hb hbb hlim hg ha hr F hbind hCX only (hsp _ only sq) (fun b u z => by cases z) (fun b z => absurd rfl z) fun z => absurd rfl z
end
theorem walk_ofW {l : PySem.W.OpenLaw} {n k : Nat} {q : Program} {loose : List Str} {XP : (Str → Option Value) → Heap → Prop} {YP : World → Heap → Prop} {d : DefRec} {CX : World → CXT} {x : Str}
    (hn : l.most = some n) (hn2 : n ≤ sizeLine) (hdf : d.params.defaults = []) (hr : Room k callerA)
    (F : ∀ (w : World) (mg : Str → Option Value) (fa : Addr) (h : Heap), YP w h → h.Ns mainGlobals mg → mg d.name = some (.ref fa) →
      ∃ (K : PySem.W.Frag) (fd : FuncData) (sp : Sp), K.In h ∧ (∀ (s : Shared) (u : Value), BindsTo s fd ⟨[u], []⟩ [(x, u)]) ∧
        (∀ (H : Hp) (a : Addr) (ns : List Int), ns.length ≤ n → Only H → SqL K H a (ns.map V.int) → sp [.ref a] H (fun v _ => v = .bl true) fun _ _ _ => False) ∧
        ∀ base : Heap, K.In base → base.Ns mainGlobals mg → FnOk l.prog w K mg base (CX w) k fa fd [x] sp)
    (hCX : ∀ (w : World) (H : Hp) (s : Shared) (e : Value) (s' : Shared), CX w [] H s (fun _ _ _ => False) e s' → False) :
    PySem.W.WalkO q loose XP YP l.row.toRowW d [] (fun f vs => PySem.call f vs) := by
  refine Att.attach_call hn hdf fun w s₀ s₁ mg mb fa o pm cd doc a vs ns G Y ho hd hcd hmg hobj hints hlen hg => ?_
  obtain ⟨K, fd, sp, KX, hb, hsp, hF⟩ := F w mg fa _ Y G.T.g hmg
  exact law_run KX G.T.g G.T.b G.T.builtins G.T.nolimit hg hobj hints (Nat.le_trans hlen hn2) hr hF hb (fun H hO hS => hsp H a ns hlen hO hS) fun H e s' => hCX w H s₁ e s'
theorem noCX {P : Program} {w : World} {H : Hp} {s : Shared} {e : Value} {s' : Shared} (h : L2.CX P w [] H s (fun _ _ _ => False) e s') : False := by
  obtain ⟨_, _, _, _, _, _, _, _, _, _, _, _, z⟩ := h
  exact z
end
end TS

namespace TS
open PySem L2
noncomputable section
section
open PySem.Spec PyProof.Rows
variable {P : Program} {w : World} {K : PySem.W.Frag} {mg mb : Str → Option Value} {CX : CXT} {k : Nat} {fa a : Addr} {cs : List (Addr × Addr)} {fd : FuncData} {x : Str} {sp : Sp} {s1 : Shared} {vs : List Value} {ns : List Int}
end
theorem entry {M : Gm} {H : Hp} {a : Addr} {ns : List Int} (hS : SqL M.K H a (ns.map V.int)) (hT : ∀ p ∈ M.T, H p.1 = some (.tbl #[])) : ∃ F, Same F H ∧ Tb M F H ∧ reps M F [.scr (ns.map D.int)] [.ref a] := by
  let F : Hp := fun b => match H b with
    | some (.tbl _) => none
    | x => x
  have hF : ∀ b o, F b = some o → H b = some o ∧ ∀ ps, o ≠ .tbl ps := fun b o e => by
    have e : (match H b with | some (.tbl _) => none | x => x) = some o := e
    split at e
    · cases e
    · rename_i q
      exact ⟨e, fun ps z => by subst z; exact q ps e⟩
  have hN : ∀ b o, H b = some o → (∀ ps, o ≠ .tbl ps) → F b = some o := fun b o e n => by
    show (match H b with | some (.tbl _) => none | x => x) = some o
    rw [e]
    cases o <;> first | rfl | exact absurd rfl (n _)
  refine ⟨F, fun b o e => (hF b o e).1, ⟨fun p hp => LamX.TabS.nil (hT p hp), fun p hp => ?_, fun b ps e => (hF b _ e).2 ps rfl⟩, reps_cons ?_ reps_nil⟩
  · show (match H p.1 with | some (.tbl _) => none | x => x) = none
    rw [hT p hp]
  · unfold rep
    refine ⟨a, _, rfl, ?_, reps_ints ns⟩
    rcases hS with (h | ⟨o, h⟩) | h
    · exact .inl (.inl (hN _ _ h fun ps z => nomatch z))
    · exact .inl (.inr ⟨o, hN _ _ h fun ps z => nomatch z⟩)
    · exact .inr h
end
end TS

namespace TS
open PySem L2
noncomputable section
def iL (xs : List Int) : List D := xs.map D.int
@[simp] theorem iL_len (xs : List Int) : (iL xs).length = xs.length := by simp [iL]
@[simp] theorem iL_nil : iL [] = [] := rfl
theorem iL_cons (x : Int) (xs : List Int) : iL (x :: xs) = .int x :: iL xs := rfl
theorem iL_app (xs ys : List Int) : iL (xs ++ ys) = iL xs ++ iL ys := by simp [iL]
theorem toPs_ints : ∀ xs : List Int, toPs (iL xs) = some (xs.map PyData.int)
  | [] => by simp [toPs]
  | x :: xs => by
    have := toPs_ints xs
    simp only [iL, List.map_cons] at this ⊢
    simp [toPs, toP, this]
theorem canLay_ints : ∀ xs : List Int, PyData.canLayAll0 (xs.map PyData.int) = true
  | [] => by simp [PyData.canLayAll0]
  | x :: xs => by simp [PyData.canLayAll0, PyData.canLay0, canLay_ints xs]
theorem depth_ints : ∀ xs : List Int, PyData.depthAll (xs.map PyData.int) ≤ 1
  | [] => by simp [PyData.depthAll]
  | x :: xs => by
    have := depth_ints xs
    simp only [List.map_cons, PyData.depthAll, PyData.depth]
    omega
theorem shaped_l (xs : List Int) : SeqAt.shaped (.list (xs.map PyData.int)) = true := by
  have := depth_ints xs
  unfold SeqAt.shaped
  rw [Bool.and_eq_true]
  refine ⟨by simp only [PyData.canLay0]; exact canLay_ints xs, decide_eq_true ?_⟩
  simp only [PyData.depth]
  omega
theorem eqvAll_ints : ∀ xs ys : List Int, PyData.eqvAll (xs.map PyData.int) (ys.map PyData.int) = decide (xs = ys)
  | [], [] => by simp [PyData.eqvAll]
  | [], y :: ys => by simp [PyData.eqvAll]
  | x :: xs, [] => by simp [PyData.eqvAll]
  | x :: xs, y :: ys => by
    simp only [List.map_cons, PyData.eqvAll, eqvAll_ints xs ys, eqvI]
    by_cases h : x = y
    · by_cases h2 : xs = ys <;> simp [h, h2]
    · simp [h]
theorem toP_l (xs : List Int) : toP (.lst (iL xs)) = some (.list (xs.map PyData.int)) := by
  unfold toP; rw [toPs_ints]; rfl
@[simp] theorem gEq_l (xs ys : List Int) : gEq (.lst (iL xs)) (.lst (iL ys)) = some (.imm (.bl (decide (xs = ys)))) := by
  simp only [gEq, toP_l, shaped_l, Bool.and_self, if_true, PyData.eqv, eqvAll_ints]
@[simp] theorem gNe_l (xs ys : List Int) : gNe (.lst (iL xs)) (.lst (iL ys)) = some (.imm (.bl (!decide (xs = ys)))) := by
  simp only [gNe, toP_l, shaped_l, Bool.and_self, if_true, PyData.eqv, eqvAll_ints]
theorem intsD_ints : ∀ xs : List Int, intsD (iL xs) = some xs
  | [] => rfl
  | x :: xs => by
    have := intsD_ints xs
    simp only [iL, List.map_cons] at this ⊢
    simp [intsD, this]
@[simp] theorem gMax_2 (i j : Int) : gMax [.int i, .int j] = some (.imm (.int (if j > i then j else i))) := rfl
@[simp] theorem gMin_2 (i j : Int) : gMin [.int i, .int j] = some (.imm (.int (if j < i then j else i))) := rfl
theorem atI_ints (xs : List Int) (i : Int) : atI (iL xs) i = (atI xs i).map D.int := by
  unfold atI
  simp only [iL, List.length_map]
  cases ixN xs.length i with
  | none => rfl
  | some j => simp
theorem atI_in {α : Type} {xs : List α} {n : Nat} (h : n < xs.length) : atI xs (n : Int) = some xs[n] := by
  unfold atI ixN
  simp [h]
theorem gIx_ints {xs : List Int} {n : Nat} (h : n < xs.length) : gIx (.lst (iL xs)) (.int (n : Int)) = some (.imm (.int xs[n])) := by
  rw [gIx_l, atI_ints, atI_in h]; rfl
theorem gCat_ints (xs ys : List Int) (h : xs.length + ys.length ≤ 16777216) : gAdd (.lst (iL xs)) (.lst (iL ys)) = some (.own (.l (iL (xs ++ ys)))) := by
  have e : gI (fun _ _ => true) (fun i j => i + j) (.lst (iL xs)) (.lst (iL ys)) = none := rfl
  simp only [gAdd, gOr, e, gCat, iL_len, h, if_true, iL_app]
theorem flatten_ints (k : Nat) (xs : List Int) : (List.replicate k (iL xs)).flatten = iL (List.replicate k xs).flatten := by
  induction k with
  | zero => rfl
  | succ k ih => rw [List.replicate_succ, List.replicate_succ, List.flatten_cons, List.flatten_cons, ih, iL, iL, iL, List.map_append]
theorem gRep_ints {xs : List Int} {k : Int} (h0 : 0 ≤ k) (h1 : k < 9223372036854775808) (h2 : xs.length * k.toNat ≤ 16777216) : gMul (.lst (iL xs)) (.int k) = some (.own (.l (iL (List.replicate k.toNat xs).flatten))) := by
  have e : gI CMulB (fun i j => i * j) (.lst (iL xs)) (.int k) = none := rfl
  have e2 : gd (0 ≤ k ∧ k < 9223372036854775808 ∧ (iL xs).length * k.toNat ≤ 16777216) = true := gd_true ⟨h0, h1, by simpa [iL] using h2⟩
  simp only [gMul, gOr, e, gRep, e2, if_true, flatten_ints]
theorem gRep_nat {xs : List Int} {k : Nat} (h1 : k ≤ 16777216) (h2 : xs.length * k ≤ 16777216) : gMul (.lst (iL xs)) (.int (k : Int)) = some (.own (.l (iL (List.replicate k xs).flatten))) := by
  have e := gRep_ints (xs := xs) (k := (k : Int)) (by omega) (by omega) (by simpa using h2)
  rw [Int.toNat_natCast] at e
  exact e
theorem cut_to (xs : List Int) (n : Nat) : cutD (iL xs) none (some (n : Int)) = iL (xs.take n) := by
  unfold cutD
  rw [HT.sIx_none, HT.sIx_nat, List.drop_zero, Nat.sub_zero, iL, iL, List.length_map, ← List.map_take]
  congr 1
  by_cases h : n ≤ xs.length
  · rw [Nat.min_eq_left h]
  · rw [Nat.min_eq_right (by omega), List.take_of_length_le (Nat.le_refl _), List.take_of_length_le (by omega)]
section
variable (δ : Sl)
@[simp] theorem ap_fOwnIo (f : Fm) (i : Nat) (fa : FA) : fOwnIo f i fa δ = match δ[i]? with
  | some (some r0) => if r0.mu then (fa δ).bind fun ds δ1 => match δ1[i]? with
      | some (some (.own o)) => (match f (some o) ds with
        | .ok r (some o') => .ok r (δ1.set i (some (.own o')))
        | .exc x (some o') => .exc x (δ1.set i (some (.own o')))
        | _ => .bad)
      | some (some (.brw o)) => (match f (some o) ds with
        | .ok r (some o') => .ok r (δ1.set i (some (.brw o')))
        | .exc x (some o') => .exc x (δ1.set i (some (.brw o')))
        | _ => .bad)
      | _ => .bad
    else .bad
  | _ => .bad := id rfl
@[simp] theorem ap_fMut (i : Nat) (m : List D → List D → Option (D × List D)) (fa : FA) : fMut i m fa δ = match getL δ i with
  | none => .bad
  | some _ => (fa δ).bind fun as δ1 => match getL δ1 i with
    | none => .bad
    | some ds => match m ds as with
      | none => .bad
      | some (z, ds') => .ok z (match δ1[i]? with
        | some (some (.own _)) => δ1.set i (some (.own (.l ds')))
        | _ => δ1.set i (some (.brw (.l ds')))) := id rfl
@[simp] theorem ap_getL (i : Nat) : getL δ i = match δ[i]? with | some (some (.own (.l ds))) => some ds | some (some (.brw (.l ds))) => some ds | _ => none := id rfl
end
theorem erase_map {α β : Type} (f : α → β) : ∀ (l : List α) (n : Nat), (l.map f).eraseIdx n = (l.eraseIdx n).map f
  | [], n => by simp
  | a :: l, 0 => by simp
  | a :: l, n + 1 => by simp [erase_map f l n]
theorem erase_perm {α : Type} : ∀ (l : List α) (n : Nat) (h : n < l.length), (l[n] :: l.eraseIdx n).Perm l
  | a :: l, 0, h => by simp
  | a :: l, n + 1, h => by
    simp only [List.getElem_cons_succ, List.eraseIdx_cons_succ]
    exact (List.Perm.swap _ _ _).trans ((erase_perm l n (by simpa using h)).cons a)
theorem mAppend_int {xs : List Int} (h : xs.length < 16777216) (d : Int) : mAppend (iL xs) [.int d] = some (.non, iL (xs ++ [d])) := by
  simp only [mAppend, iL_len, h, if_true, iL_app]; rfl
theorem rgOk_nat {k : Nat} (h : k ≤ 16777216) : rgOkB 0 (k : Int) = true := by
  unfold rgOkB
  refine gd_true ?_
  refine ⟨?_, ?_, ?_, ?_, ?_⟩ <;> omega
theorem rg1_nat {k : Nat} (h : k ≤ 16777216) : gd (-4611686018427387904 ≤ (k : Int) ∧ (k : Int) < 4611686018427387904) = true := by
  refine gd_true ?_
  refine ⟨?_, ?_⟩ <;> omega
theorem rg2_nat {i k : Nat} (h0 : i ≤ 16777216) (h : k ≤ 16777216) : gd (-4611686018427387904 ≤ (i : Int) ∧ (i : Int) < 4611686018427387904 ∧ -4611686018427387904 ≤ (k : Int) ∧ (k : Int) < 4611686018427387904) = true := by
  refine gd_true ?_
  refine ⟨?_, ?_, ?_, ?_⟩ <;> omega
def nats (i k : Nat) : List Int := (List.range' i k).map fun z : Nat => (z : Int)
theorem rgD_nats (k : Nat) : rgD 0 (k : Int) = iL (nats 0 k) := by simp [rgD, iL, nats, List.range_eq_range']
theorem nats_len (i k : Nat) : (nats i k).length = k := by simp [nats]
theorem nats_succ (i k : Nat) : iL (nats i (k + 1)) = .int (i : Int) :: iL (nats (i + 1) k) := by simp [nats, iL, List.range'_succ]
theorem fLRg1_ok {f : FD} {δ : Sl} {k : Nat} (h : k ≤ 16777216) (e : f δ = .ok (.int (k : Int)) δ) : fLRg1 f δ = .ok (.own (.l (iL (nats 0 k)))) δ := by
  unfold fLRg1
  rw [e, Res.bind_ok]
  show (if rgOkB 0 (k : Int) = true then Res.ok (R.own (.l (rgD 0 (k : Int)))) δ else .bad) = _
  rw [if_pos (rgOk_nat h), rgD_nats]
theorem itRg1_ok {f : FD} {δ : Sl} {k : Nat} (h : k ≤ 16777216) (e : f δ = .ok (.int (k : Int)) δ) : itRg1 f δ = .ok (iL (nats 0 k)) δ := by
  unfold itRg1
  rw [e, Res.bind_ok]
  show (if gd (-4611686018427387904 ≤ (k : Int) ∧ (k : Int) < 4611686018427387904) = true then Res.ok (rgD 0 (k : Int)) δ else .bad) = _
  rw [if_pos (rg1_nat h), rgD_nats]
end
end TS

namespace TS
def act (t : List Int) (x : Int) : Int := t.getD (x % (t.length : Int)).toNat 0
def PerF (f : Int → Int) (p : Int) : Prop := ∀ x, f (x + p) = f x
theorem PerF.neg {f : Int → Int} {p : Int} (h : PerF f p) : PerF f (-p) := fun x => by
  have := h (x + -p)
  rw [← this]; congr 1; omega
theorem PerF.add {f : Int → Int} {p q : Int} (h : PerF f p) (h' : PerF f q) : PerF f (p + q) := fun x => by
  rw [← Int.add_assoc, h' (x + p), h x]
theorem PerF.zero {f : Int → Int} : PerF f 0 := fun x => by rw [Int.add_zero]
theorem PerF.mulN {f : Int → Int} {p : Int} (h : PerF f p) : ∀ n : Nat, PerF f (n * p)
  | 0 => by simpa using PerF.zero
  | n + 1 => by
    have := (PerF.mulN h n).add h
    have e : ((n + 1 : Nat) : Int) * p = n * p + p := by push_cast; rw [Int.add_mul, Int.one_mul]
    rw [e]; exact this
theorem PerF.mul {f : Int → Int} {p : Int} (h : PerF f p) (k : Int) : PerF f (k * p) := by
  rcases Int.le_total 0 k with hk | hk
  · obtain ⟨n, rfl⟩ := Int.eq_ofNat_of_zero_le hk
    exact h.mulN n
  · obtain ⟨n, e⟩ := Int.eq_ofNat_of_zero_le (show 0 ≤ -k by omega)
    have := (h.mulN n).neg
    have e2 : -((n : Int) * p) = k * p := by
      have : k = -(n : Int) := by omega
      rw [this, Int.neg_mul]
    rw [← e2]; exact this
theorem PerF.gcd {f : Int → Int} (p q : Nat) : PerF f p → PerF f q → PerF f (Nat.gcd p q : Nat) := by
  refine Nat.gcd.induction (P := fun p q => PerF f (p : Int) → PerF f (q : Int) → PerF f ((Nat.gcd p q : Nat) : Int)) p q (fun n _ h => ?_) fun m n hm ih h1 h2 => ?_
  · rw [Nat.gcd_zero_left]; exact h
  · rw [Nat.gcd_rec]
    refine ih ?_ h1
    have e : ((n % m : Nat) : Int) = n + (-((n / m : Nat) : Int)) * m := by
      have := Nat.div_add_mod n m
      have h3 : (n : Int) = (m : Int) * ((n / m : Nat) : Int) + ((n % m : Nat) : Int) := by exact_mod_cast this.symm
      rw [Int.neg_mul, Int.mul_comm]; omega
    rw [e]
    exact h2.add (h1.mul _)
theorem act_per (t : List Int) : PerF (act t) t.length := fun x => by
  unfold act
  rw [Int.add_emod_right]
end TS

namespace TS
theorem rep_get (s : List Int) : ∀ (k i : Nat), i < k * s.length → (List.replicate k s).flatten.getD i 0 = s.getD (i % s.length) 0
  | 0, i, h => by simp at h
  | k + 1, i, h => by
    rw [List.replicate_succ, List.flatten_cons, List.getD_eq_getElem?_getD]
    by_cases hi : i < s.length
    · rw [List.getElem?_append_left hi, Nat.mod_eq_of_lt hi, List.getD_eq_getElem?_getD]
    · have hs : i - s.length < k * s.length := by rw [Nat.succ_mul] at h; omega
      rw [List.getElem?_append_right (by omega), ← List.getD_eq_getElem?_getD, rep_get s k _ hs, Nat.mod_eq_sub_mod (by omega : s.length ≤ i)]
def repOf (p : Nat) (t : List Int) : List Int := (List.replicate (t.length / p) (t.take p)).flatten
def isPer (t : List Int) (p : Nat) : Bool := decide (t.length % p = 0) && decide (repOf p t = t)
theorem repOf_length {p : Nat} {t : List Int} (hp : 0 < p) (hd : p ∣ t.length) (h0 : 0 < t.length) : (repOf p t).length = t.length := by
  have hle : p ≤ t.length := Nat.le_of_dvd h0 hd
  unfold repOf
  have e : ∀ k : Nat, ((List.replicate k (t.take p)).flatten).length = k * p := fun k => by
    induction k with
    | zero => simp
    | succ k ih => rw [List.replicate_succ, List.flatten_cons, List.length_append, ih, List.length_take, Nat.min_eq_left hle, Nat.succ_mul, Nat.add_comm]
  rw [e]
  exact Nat.div_mul_cancel hd
theorem getD_ext {a b : List Int} (hl : a.length = b.length) (h : ∀ i, i < b.length → a.getD i 0 = b.getD i 0) : a = b := by
  apply List.ext_getElem hl
  intro i h1 h2
  have := h i h2
  rw [List.getD_eq_getElem?_getD, List.getD_eq_getElem?_getD, List.getElem?_eq_getElem h1, List.getElem?_eq_getElem h2] at this
  exact this
theorem act_nat {t : List Int} {i : Nat} (h : i < t.length) : act t i = t.getD i 0 := by
  unfold act
  rw [Int.emod_eq_of_lt (by omega) (by omega)]
  rfl
theorem act_mod (t : List Int) (x : Int) : act t (x % t.length) = act t x := by
  unfold act
  rw [Int.emod_emod_of_dvd _ (Int.dvd_refl _)]
theorem per_mod {f : Int → Int} {p : Int} (h : PerF f p) (x : Int) : f (x % p) = f x := by
  have := h.mul (-(x / p)) x
  rw [← this]
  congr 1
  have := Int.emod_add_mul_ediv x p
  rw [Int.neg_mul, Int.mul_comm]; omega
theorem isPer_iff {t : List Int} {p : Nat} (hp : 0 < p) (h0 : 0 < t.length) (hd : p ∣ t.length) : repOf p t = t ↔ PerF (act t) p := by
  have hle : p ≤ t.length := Nat.le_of_dvd h0 hd
  have key : ∀ i, i < t.length → (repOf p t).getD i 0 = t.getD (i % p) 0 := fun i hi => by
    have hl : (t.take p).length = p := by rw [List.length_take, Nat.min_eq_left hle]
    unfold repOf
    rw [rep_get (t.take p) (t.length / p) i (by rw [hl, Nat.div_mul_cancel hd]; exact hi), hl, List.getD_eq_getElem?_getD, List.getElem?_take_of_lt (Nat.mod_lt _ hp), List.getD_eq_getElem?_getD]
  have hb : ∀ x : Int, 0 ≤ x % (t.length : Int) ∧ x % (t.length : Int) < t.length := fun x => ⟨Int.emod_nonneg _ (by omega), Int.emod_lt_of_pos _ (by omega)⟩
  constructor
  · intro e x
    have step : ∀ y : Int, act t y = act t (y % (p : Int)) := fun y => by
      obtain ⟨b1, b2⟩ := hb y
      obtain ⟨i, ei⟩ := Int.eq_ofNat_of_zero_le b1
      have hi : i < t.length := by omega
      have q := key i hi
      rw [e] at q
      have hm : i % p < t.length := Nat.lt_of_lt_of_le (Nat.mod_lt _ hp) hle
      rw [← act_mod t y, ei, act_nat hi, q, ← act_nat hm]
      have : y % (p : Int) = ((i % p : Nat) : Int) := by
        rw [← Int.emod_emod_of_dvd y (Int.natCast_dvd_natCast.mpr hd), ei]; rfl
      rw [this]
    rw [step (x + p), Int.add_emod_right, ← step x]
  · intro h
    refine getD_ext (repOf_length hp hd h0) fun i hi => ?_
    rw [key i hi]
    have hm : i % p < t.length := Nat.lt_of_lt_of_le (Nat.mod_lt _ hp) hle
    rw [← act_nat hi, ← act_nat hm, ← per_mod h i]
    rfl
end TS

namespace TS
def leastP (t : List Int) : Nat := ((List.range' 1 (t.length - 1)).find? (isPer t)).getD t.length
def least (t : List Int) : List Int := t.take (leastP t)
structure IsMin (f : Int → Int) (p : Nat) : Prop where
  pos : 0 < p
  per : PerF f p
  min : ∀ q : Nat, 0 < q → PerF f q → p ≤ q
theorem IsMin.uniq {f : Int → Int} {p q : Nat} (h : IsMin f p) (h' : IsMin f q) : p = q := Nat.le_antisymm (h.min q h'.pos h'.per) (h'.min p h.pos h.per)
theorem isPer_spec {t : List Int} {p : Nat} (hp : 0 < p) (h0 : 0 < t.length) : isPer t p = true ↔ p ∣ t.length ∧ PerF (act t) p := by
  unfold isPer
  rw [Bool.and_eq_true, decide_eq_true_eq, decide_eq_true_eq, ← Nat.dvd_iff_mod_eq_zero]
  exact ⟨fun h => ⟨h.1, (isPer_iff hp h0 h.1).mp h.2⟩, fun h => ⟨h.1, (isPer_iff hp h0 h.1).mpr h.2⟩⟩
theorem leastP_dvd {t : List Int} (h0 : 0 < t.length) : leastP t ∣ t.length ∧ 0 < leastP t ∧ PerF (act t) (leastP t) := by
  unfold leastP
  cases e : (List.range' 1 (t.length - 1)).find? (isPer t) with
  | none => exact ⟨Nat.dvd_refl _, h0, act_per t⟩
  | some p =>
    have h1 := List.find?_some e
    have h2 := List.mem_of_find?_eq_some e
    rw [List.mem_range'_1] at h2
    obtain ⟨k1, k2⟩ := (isPer_spec (by omega) h0).mp h1
    exact ⟨k1, by simp; omega, k2⟩
theorem leastP_le {t : List Int} (h0 : 0 < t.length) {p : Nat} (hp : 0 < p) (hd : p ∣ t.length) (h : PerF (act t) p) : leastP t ≤ p := by
  have hle := Nat.le_of_dvd h0 hd
  by_cases hn : p = t.length
  · subst hn
    exact Nat.le_of_dvd h0 (leastP_dvd h0).1
  · unfold leastP
    cases e : (List.range' 1 (t.length - 1)).find? (isPer t) with
    | none =>
      have := List.find?_eq_none.mp e p (by rw [List.mem_range'_1]; omega)
      exact absurd ((isPer_spec hp h0).mpr ⟨hd, h⟩) this
    | some q =>
      obtain ⟨as, bs, e1, e2⟩ := (List.find?_eq_some_iff_append.mp e).2
      show q ≤ p
      rcases Nat.lt_or_ge p q with hlt | hge
      · exfalso
        have hm : p ∈ as := by
          have hq : p ∈ List.range' 1 (t.length - 1) := by rw [List.mem_range'_1]; omega
          rw [e1] at hq
          have hs : (List.range' 1 (t.length - 1)).Pairwise (· < ·) := List.pairwise_lt_range'
          rw [e1] at hs
          rcases List.mem_append.mp hq with z | z
          · exact z
          · rcases List.mem_cons.mp z with z | z
            · omega
            · have := (List.pairwise_cons.mp (List.pairwise_append.mp hs).2.1).1 p z
              omega
        have := e2 p hm
        have k := (isPer_spec hp h0).mpr ⟨hd, h⟩
        simp [k] at this
      · exact hge
theorem leastP_min {t : List Int} (h0 : 0 < t.length) : IsMin (act t) (leastP t) := by
  obtain ⟨h1, h2, h3⟩ := leastP_dvd h0
  refine ⟨h2, h3, fun q hq hper => ?_⟩
  have hg := PerF.gcd q t.length hper (act_per t)
  have hgp : 0 < Nat.gcd q t.length := Nat.gcd_pos_of_pos_left _ hq
  exact Nat.le_trans (leastP_le h0 hgp (Nat.gcd_dvd_right _ _) hg) (Nat.le_of_dvd hq (Nat.gcd_dvd_left _ _))
theorem least_length {t : List Int} (h0 : 0 < t.length) : (least t).length = leastP t := by
  unfold least
  rw [List.length_take, Nat.min_eq_left (Nat.le_of_dvd h0 (leastP_dvd h0).1)]
theorem least_act {t : List Int} (h0 : 0 < t.length) : act (least t) = act t := by
  funext x
  obtain ⟨h1, h2, h3⟩ := leastP_dvd h0
  have hle := Nat.le_of_dvd h0 h1
  rw [← per_mod h3 x]
  have b1 := Int.emod_nonneg x (show (leastP t : Int) ≠ 0 by omega)
  have b2 := Int.emod_lt_of_pos x (show 0 < (leastP t : Int) by omega)
  obtain ⟨i, ei⟩ := Int.eq_ofNat_of_zero_le b1
  have hi : i < leastP t := by omega
  rw [← act_mod (least t) x, least_length h0, ei]
  rw [act_nat (by rw [least_length h0]; exact hi), act_nat (by omega)]
  unfold least
  rw [List.getD_eq_getElem?_getD, List.getElem?_take_of_lt hi, List.getD_eq_getElem?_getD]
theorem least_eq {s t : List Int} (hs : 0 < s.length) (ht : 0 < t.length) (h : act s = act t) : least s = least t := by
  have m1 := leastP_min hs
  have m2 := leastP_min ht
  rw [h] at m1
  have e := m1.uniq m2
  refine getD_ext (by rw [least_length hs, least_length ht, e]) fun i hi => ?_
  rw [← act_nat hi, ← act_nat (by rw [least_length hs, e, ← least_length ht]; exact hi), least_act hs, least_act ht, h]
theorem least_pos {t : List Int} (h0 : 0 < t.length) : 0 < (least t).length := by rw [least_length h0]; exact (leastP_dvd h0).2.1
theorem least_least {t : List Int} (h0 : 0 < t.length) : least (least t) = least t := least_eq (least_pos h0) h0 (least_act h0)
theorem least_le {t : List Int} (h0 : 0 < t.length) : (least t).length ≤ t.length := by rw [least_length h0]; exact Nat.le_of_dvd h0 (leastP_dvd h0).1
end TS

namespace TS
open PySem L2
noncomputable section
section
variable (δ : Sl)
@[simp] theorem ap_fMake (n : Nat) (f : Fm) (fa : FA) : fMake n f fa δ = (fa δ).bind fun ds δ1 => match f (some (.o n [])) ds with
  | .ok (.imm .non) (some (.o n' vs)) => if n' = n then .ok (.own (.o n vs)) δ1 else .bad
  | .exc x _ => .exc x δ1
  | _ => .bad := id rfl
@[simp] theorem ap_fMakeL (n i : Nat) (f : Fm) (fa : FA) : fMakeL n i f fa δ = match δ[i]? with
  | some (some (.imm (.cls n'))) => if n' = n then fMake n f fa δ else .bad
  | _ => .bad := id rfl
@[simp] theorem ap_fCMeth (n : Nat) (f : Fm) (fa : FA) : fCMeth n f fa δ = (fa δ).bind fun ds δ1 => outE (f none (.cls n :: ds)) δ1 := id rfl
@[simp] theorem ap_sFldS (i : Nat) (ix : Nat → Option Nat) (fe : FD) : sFldS i ix fe δ = (fe δ).bindS fun d δ1 => match δ1[i]? with
  | some (some (.own (.o n vs))) => (match ix n with
    | some j => (match setF vs j d with
      | some vs' => .nx (δ1.set i (some (.own (.o n vs'))))
      | none => .bad)
    | none => .bad)
  | some (some (.brw (.o n vs))) => (match ix n with
    | some j => (match setF vs j d with
      | some vs' => .nx (δ1.set i (some (.brw (.o n vs'))))
      | none => .bad)
    | none => .bad)
  | _ => .bad := id rfl
@[simp] theorem ap_fOwnT (f : Fm) (fe : FE) : fOwnT f fe δ = (fe δ).bind fun r δ1 => match r with
  | .own o => outE (f (some o) []) δ1
  | _ => .bad := id rfl
@[simp] theorem ap_fProp (tab : Nat → Option Fm) (fo : FD) : fProp tab fo δ = (fo δ).bind fun d δ1 => match d with
  | .obj n vs => (match tab n with
    | some f => (match f none [.obj n vs] with
      | .ok (.imm d) _ => .ok d δ1
      | _ => .bad)
    | none => .bad)
  | _ => .bad := id rfl
@[simp] theorem ap_fOwnK0 (f : Fm) (m : Nat) (fk : FA) : fOwnK0 f m fk δ = (fk δ).bind fun es δ2 => if es.length = m then outE (f none es) δ2 else .bad := id rfl
@[simp] theorem ap_fOwnK (f : Fm) (n m : Nat) (fa fk : FA) : fOwnK f n m fa fk δ = (fa δ).bind fun ds δ1 => (fk δ1).bind fun es δ2 => if ds.length = n ∧ es.length = m then outE (f none (ds ++ es)) δ2 else .bad := id rfl
@[simp] theorem ap_tTrue : tTrue δ = .ok true δ := id rfl
@[simp] theorem ap_sNev : sNev δ = .bad := id rfl
@[simp] theorem ap_fSlV (i : Nat) (fl fh : FO) : fSlV i fl fh δ = if there δ i then (fl δ).bind fun lo δ => (fh δ).bind fun hi δ => (vP i δ).bind fun d δ => match gSl d lo hi with | some r => .ok r δ | none => .bad else .bad := id rfl
end
theorem pow_7 : gPow (.int 10) (.int 7) = some (.imm (.int 10000000)) := by rw [gPow_i (by decide) (by decide) (by decide)]; rfl
theorem pow_18 : gPow (.int 10) (.int 18) = some (.imm (.int 1000000000000000000)) := by rw [gPow_i (by decide) (by decide) (by decide)]; rfl
theorem set_get {α : Type} (l : List α) (i : Nat) (a : α) (h : l[i]? = some a) : l.set i a = l := by
  apply List.ext_getElem?
  intro j
  rw [List.getElem?_set]
  split
  · rename_i e; subst e; split
    · exact h.symm
    · rename_i z; rw [List.getElem?_eq_none (by omega)]
  · rfl
theorem lc_map {α : Type} {inj : α → D} (out : α → D) {i : Nat} {fi : FA} {fe : FD} {δ δ1 : Sl} {xs : List α} (h1 : fi δ = .ok (xs.map inj) δ1) (hfree : freeS δ1 i = true) (hlen : xs.length ≤ 16777216)
    (he : ∀ x ∈ xs, fe (δ1.set i (some (.imm (inj x)))) = .ok (out x) (δ1.set i (some (.imm (inj x))))) : fLc (stName i) [i] fi tTrue fe δ = .ok (.own (.l (xs.map out))) δ1 := by
  have key : ∀ (ys : List α) (acc : List D), (∀ y ∈ ys, y ∈ xs) → acc.length + ys.length ≤ 16777216 → lcL (stName i) [i] tTrue fe (ys.map inj) acc (δ1.set i none) = .ok (acc ++ ys.map out) (δ1.set i none) := by
    intro ys
    induction ys with
    | nil => intro acc _ _; simp [lcL]
    | cons y ys ih =>
      intro acc hm hl
      have e := he y (hm y (by simp))
      simp only [List.map_cons, lcL, stName, List.set_set, ap_tTrue, noX, Res.bind_ok, if_true, e]
      rw [if_pos (by simp at hl; omega)]
      show lcL (stName i) [i] tTrue fe (ys.map inj) (acc ++ [out y]) ((δ1.set i (some (.imm (inj y)))).set i none) = _
      rw [List.set_set, ih (acc ++ [out y]) (fun z hz => hm z (by simp [hz])) (by simp at hl ⊢; omega)]
      simp
  obtain ⟨o, ho⟩ : ∃ o, δ1[i]? = some o := by
    unfold freeS at hfree
    cases q : δ1[i]? with
    | none => rw [q] at hfree; cases hfree
    | some o => exact ⟨o, rfl⟩
  unfold fLc
  rw [h1, Res.bind_ok]
  simp only [List.all_cons, List.all_nil, Bool.and_true, hfree, if_true]
  show ((lcL (stName i) [i] tTrue fe (xs.map inj) [] (δ1.set i none)).bind fun acc δ2 => Res.ok (R.own (.l acc)) (restD δ1 [i] δ2)) = _
  rw [key xs [] (fun _ h => h) (by simpa using hlen), Res.bind_ok]
  simp only [List.nil_append, restD, ho, Option.join, List.set_set]
  rw [set_get _ _ _ (by rw [ho]; rfl)]
theorem lc_ints {i : Nat} {fi : FA} {fe : FD} {δ δ1 : Sl} {xs : List Int} (f : Int → Int) (h1 : fi δ = .ok (iL xs) δ1) (hfree : freeS δ1 i = true) (hlen : xs.length ≤ 16777216)
    (he : ∀ x ∈ xs, fe (δ1.set i (some (.imm (.int x)))) = .ok (.int (f x)) (δ1.set i (some (.imm (.int x))))) : fLc (stName i) [i] fi tTrue fe δ = .ok (.own (.l (iL (xs.map f)))) δ1 := by
  have e := lc_map (xs := xs) (inj := D.int) (fun x => .int (f x)) h1 hfree hlen he
  rw [e]
  simp [iL]
theorem lc_intsD {i : Nat} {fi : FA} {fe : FD} {δ δ1 : Sl} {xs : List Int} (f : Int → D) (h1 : fi δ = .ok (iL xs) δ1) (hfree : freeS δ1 i = true) (hlen : xs.length ≤ 16777216)
    (he : ∀ x ∈ xs, fe (δ1.set i (some (.imm (.int x)))) = .ok (f x) (δ1.set i (some (.imm (.int x))))) : fLc (stName i) [i] fi tTrue fe δ = .ok (.own (.l (xs.map f))) δ1 :=
  lc_map (xs := xs) (inj := D.int) f h1 hfree hlen he
theorem setOB_int {acc : List Int} {j : Int} (h0 : 0 ≤ j) (h1 : j < acc.length) (v : Int) : setOB (.l (iL acc)) (.int j) (.int v) = some (.l (iL (acc.set j.toNat v))) := by
  have : ixN (iL acc).length j = some j.toNat := by
    unfold ixN
    simp [h0, h1]
  have e : (iL acc).set j.toNat (.int v) = iL (acc.set j.toNat v) := by simp only [iL, List.map_set]
  simp only [setOB, this, Option.map_some, e]
theorem ix_mod {t : List Int} (h : 0 < t.length) (x : Int) : gIx (.lst (iL t)) (.int (x % t.length)) = some (.imm (.int (act t x))) := by
  have b1 := Int.emod_nonneg x (show (t.length : Int) ≠ 0 by omega)
  have b2 := Int.emod_lt_of_pos x (show 0 < (t.length : Int) by omega)
  obtain ⟨i, ei⟩ := Int.eq_ofNat_of_zero_le b1
  have hi : i < t.length := by omega
  have ea : act t x = t[i] := by rw [← act_mod, ei, act_nat hi, List.getD_eq_getElem?_getD, List.getElem?_eq_getElem hi]; rfl
  rw [ei, gIx_ints hi, ea]
theorem lc_inv {α : Type} {inj : α → D} {i : Nat} {fi : FA} {fe : FD} {δ δ1 : Sl} {xs : List α} (I : List α → List D → Sl → Prop) (h1 : fi δ = .ok (xs.map inj) δ1) (hfree : freeS δ1 i = true) (hlen : xs.length ≤ 16777216)
    (h0 : I [] [] (δ1.set i none))
    (he : ∀ pre x post acc δ, xs = pre ++ x :: post → I pre acc δ → ∃ y δ', fe (δ.set i (some (.imm (inj x)))) = .ok y δ' ∧ I (pre ++ [x]) (acc ++ [y]) (δ'.set i none)) :
    ∃ acc δ2, acc.length = xs.length ∧ I xs acc δ2 ∧ fLc (stName i) [i] fi tTrue fe δ = .ok (.own (.l acc)) (δ2.set i ((δ1[i]?).join)) := by
  have key : ∀ (post pre : List α) (acc : List D) (δ : Sl), xs = pre ++ post → acc.length = pre.length → I pre acc δ → ∃ acc' δ2, acc'.length = xs.length ∧ I xs acc' δ2 ∧ lcL (stName i) [i] tTrue fe (post.map inj) acc δ = .ok acc' δ2 := by
    intro post
    induction post with
    | nil =>
      intro pre acc δ e hl hI
      have : xs = pre := by simpa using e
      subst this
      exact ⟨acc, δ, hl, hI, rfl⟩
    | cons y ys ih =>
      intro pre acc δ e hl hI
      obtain ⟨z, δ', e1, hI'⟩ := he pre y ys acc δ e hI
      obtain ⟨acc', δ2, l2, i2, e2⟩ := ih (pre ++ [y]) (acc ++ [z]) (δ'.set i none) (by simp [e]) (by simp [hl]) hI'
      refine ⟨acc', δ2, l2, i2, ?_⟩
      simp only [List.map_cons, lcL, stName, ap_tTrue, noX, Res.bind_ok, if_true, e1]
      rw [if_pos (by rw [hl]; rw [e] at hlen; simp at hlen; omega)]
      exact e2
  obtain ⟨acc, δ2, l2, i2, e2⟩ := key xs [] [] (δ1.set i none) rfl rfl h0
  refine ⟨acc, δ2, l2, i2, ?_⟩
  unfold fLc
  rw [h1, Res.bind_ok]
  simp only [List.all_cons, List.all_nil, Bool.and_true, hfree, if_true]
  show ((lcL (stName i) [i] tTrue fe (xs.map inj) [] (δ1.set i none)).bind fun acc δ2 => Res.ok (R.own (.l acc)) (restD δ1 [i] δ2)) = _
  rw [e2, Res.bind_ok]
  rfl
theorem for_inv {α : Type} {inj : α → D} {tg : R → Sl → SR} {body : FS} {δ : Sl} {xs : List α} (I : List α → Sl → Prop) (h0 : I [] δ)
    (he : ∀ pre x post δ, xs = pre ++ x :: post → I pre δ → ∃ δ', ((tg (.imm (inj x)) δ).bind body = .nx δ' ∨ (tg (.imm (inj x)) δ).bind body = .ct δ') ∧ I (pre ++ [x]) δ') :
    ∃ δ', I xs δ' ∧ forL tg body (xs.map inj) δ = .nx δ' := by
  have key : ∀ (post pre : List α) (δ : Sl), xs = pre ++ post → I pre δ → ∃ δ', I xs δ' ∧ forL tg body (post.map inj) δ = .nx δ' := by
    intro post
    induction post with
    | nil =>
      intro pre δ e hI
      have : xs = pre := by simpa using e
      subst this
      exact ⟨δ, hI, rfl⟩
    | cons y ys ih =>
      intro pre δ e hI
      obtain ⟨δ', e1, hI'⟩ := he pre y ys δ e hI
      obtain ⟨δ2, i2, e2⟩ := ih (pre ++ [y]) δ' (by simp [e]) hI'
      refine ⟨δ2, i2, ?_⟩
      simp only [List.map_cons, forL]
      rcases e1 with e1 | e1 <;> rw [e1] <;> exact e2
  exact key xs [] δ rfl h0
theorem pre_get {α : Type} {xs pre post : List α} {x : α} (h : xs = pre ++ x :: post) : xs[pre.length]? = some x := by
  subst h; simp
theorem itRg2_ok {f g : FD} {δ δ1 : Sl} {i k : Nat} (hi : i ≤ 16777216) (h : k ≤ 16777216) (e1 : f δ = .ok (.int (i : Int)) δ) (e2 : g δ = .ok (.int (k : Int)) δ1) : itRg2 f g δ = .ok (iL (nats i (k - i))) δ1 := by
  unfold itRg2
  rw [e1, Res.bind_ok, e2, Res.bind_ok]
  show (if gd (-4611686018427387904 ≤ (i : Int) ∧ (i : Int) < 4611686018427387904 ∧ -4611686018427387904 ≤ (k : Int) ∧ (k : Int) < 4611686018427387904) = true then Res.ok (rgD (i : Int) (k : Int)) δ1 else .bad) = _
  rw [if_pos (rg2_nat hi h)]
  congr 1
  simp only [rgD, iL, nats, List.map_map]
  rw [show ((k : Int) - (i : Int)).toNat = k - i by omega, List.range'_eq_map_range, List.map_map]
  apply List.map_congr_left
  intro a _
  simp
end
end TS

namespace TS
theorem nodup_iff {α : Type} {l : List α} : l.Nodup ↔ ∀ i j, i < j → j < l.length → l[i]? ≠ l[j]? := by
  unfold List.Nodup
  rw [List.pairwise_iff_getElem]
  constructor
  · intro h i j hij hj e
    rw [List.getElem?_eq_getElem hj, List.getElem?_eq_getElem (by omega)] at e
    exact h i j (by omega) hj hij (Option.some.inj e)
  · intro h i j hi hj hij e
    exact h i j hij hj (by rw [List.getElem?_eq_getElem hj, List.getElem?_eq_getElem hi, e])
def mv (t : List Int) (x : Int) : Int := x + act t x
structure Good (t : List Int) : Prop where
  pos : 0 < t.length
  len : t.length ≤ 2520
  inj : ∀ x y, mv t x = mv t y → x = y
def rems (n : Int) : Nat → List Int → List Int
  | _, [] => []
  | i, x :: t => ((i : Int) + x) % n :: rems n (i + 1) t
theorem rems_len (n : Int) : ∀ (t : List Int) (i : Nat), (rems n i t).length = t.length
  | [], i => rfl
  | x :: t, i => by simp [rems, rems_len n t (i + 1)]
theorem rems_get (n : Int) : ∀ (t : List Int) (i j : Nat), (rems n i t)[j]? = (t[j]?).map fun x => (((i + j : Nat) : Int) + x) % n
  | [], i, j => by simp [rems]
  | x :: t, i, 0 => by simp [rems]
  | x :: t, i, j + 1 => by
    simp only [rems, List.getElem?_cons_succ, rems_get n t (i + 1) j]
    congr 1; funext z; congr 2; omega
theorem act_get {t : List Int} {i : Nat} {x : Int} (h : t[i]? = some x) : act t i = x := by
  obtain ⟨hl, e⟩ := List.getElem?_eq_some_iff.mp h
  rw [act_nat hl, List.getD_eq_getElem?_getD, h]; rfl
theorem act_get' {t : List Int} {i : Nat} (h : i < t.length) : t[i]? = some (act t i) := by
  rw [act_nat h, List.getD_eq_getElem?_getD, List.getElem?_eq_getElem h]; rfl
theorem mv_perk (t : List Int) (x k : Int) : mv t (x + k * t.length) = mv t x + k * t.length := by
  unfold mv; rw [(act_per t).mul k x]; omega
theorem Good.rems {t : List Int} (h : Good t) : (rems t.length 0 t).Nodup := by
  rw [nodup_iff]
  intro i j hij hj e
  rw [rems_len] at hj
  have hi : i < t.length := by omega
  rw [rems_get, rems_get, act_get' hi, act_get' hj] at e
  simp only [Option.map_some, Option.some.injEq, Nat.zero_add] at e
  have h0 : (t.length : Int) ≠ 0 := by omega
  -- mv i = mv j + k n
  have d : ∃ k : Int, mv t i = mv t j + k * t.length := by
    refine ⟨((i : Int) + act t i) / t.length - ((j : Int) + act t j) / t.length, ?_⟩
    have e1 := Int.emod_add_mul_ediv ((i : Int) + act t i) t.length
    have e2 := Int.emod_add_mul_ediv ((j : Int) + act t j) t.length
    unfold mv
    rw [Int.sub_mul, Int.mul_comm _ (t.length : Int), Int.mul_comm _ (t.length : Int)]
    omega
  obtain ⟨k, hk⟩ := d
  rw [← mv_perk] at hk
  have := h.inj _ _ hk
  -- i = j + k n with both in [0, n)
  have hk0 : k = 0 := by
    rcases Int.lt_trichotomy k 0 with hk | hk | hk
    · have : k * (t.length : Int) ≤ -1 * t.length := Int.mul_le_mul_of_nonneg_right (by omega) (by omega)
      omega
    · exact hk
    · have : 1 * (t.length : Int) ≤ k * t.length := Int.mul_le_mul_of_nonneg_right (by omega) (by omega)
      omega
  subst hk0
  omega
theorem good_of_rems {t : List Int} (h0 : 0 < t.length) (h1 : t.length ≤ 2520) (hn : (TS.rems t.length 0 t).Nodup) : Good t := by
  refine ⟨h0, h1, fun x y e => ?_⟩
  have key : ∀ z : Int, ∃ i : Nat, i < t.length ∧ z % (t.length : Int) = i ∧ act t z = act t i := fun z => by
    have b1 := Int.emod_nonneg z (show (t.length : Int) ≠ 0 by omega)
    have b2 := Int.emod_lt_of_pos z (show 0 < (t.length : Int) by omega)
    obtain ⟨i, ei⟩ := Int.eq_ofNat_of_zero_le b1
    exact ⟨i, by omega, ei, by rw [← act_mod t z, ei]⟩
  obtain ⟨i, hi, ei, ai⟩ := key x
  obtain ⟨j, hj, ej, aj⟩ := key y
  have q : i = j := by
    rcases Nat.lt_trichotomy i j with h | h | h
    · exfalso
      refine nodup_iff.mp hn i j h (by rw [rems_len]; exact hj) ?_
      rw [rems_get, rems_get, act_get' hi, act_get' hj]
      simp only [Option.map_some, Option.some.injEq, Nat.zero_add]
      rw [← ai, ← aj, ← ei, ← ej, Int.emod_add_emod, Int.emod_add_emod]
      unfold mv at e
      rw [e]
    · exact h
    · exfalso
      refine nodup_iff.mp hn j i h (by rw [rems_len]; exact hi) ?_
      rw [rems_get, rems_get, act_get' hi, act_get' hj]
      simp only [Option.map_some, Option.some.injEq, Nat.zero_add]
      rw [← ai, ← aj, ← ei, ← ej, Int.emod_add_emod, Int.emod_add_emod]
      unfold mv at e
      rw [e]
  subst q
  unfold mv at e
  rw [ai, aj] at e
  omega
theorem Good.least {t : List Int} (h : Good t) : Good (least t) := by
  refine ⟨least_pos h.pos, Nat.le_trans (least_le h.pos) h.len, fun x y e => h.inj x y ?_⟩
  unfold mv at e ⊢
  rw [least_act h.pos] at e
  exact e
theorem mv_least {t : List Int} (h : Good t) : mv (least t) = mv t := by
  funext x; unfold mv; rw [least_act h.pos]
def tabOf (n : Nat) (f : Int → Int) : List Int := (List.range n).map fun i : Nat => f (i : Int)
theorem tabOf_len (n : Nat) (f : Int → Int) : (tabOf n f).length = n := by simp [tabOf]
theorem tabOf_self (t : List Int) : tabOf t.length (act t) = t := by
  apply getD_ext (tabOf_len _ _)
  intro i hi
  have : (tabOf t.length (act t))[i]? = some (act t i) := by simp [tabOf, hi]
  rw [List.getD_eq_getElem?_getD, this, Option.getD_some, act_nat hi]
end TS

namespace TS
open PySem L2
noncomputable section
theorem strOk_of (s : String) : PyData.strOk (Str.ofString s) = true := by
  unfold PyData.strOk
  rw [Str.ofString_eq_toList]
  rw [Array.all_eq_true']
  intro n hn
  simp at hn
  obtain ⟨c, _, rfl⟩ := hn
  have := c.valid
  simp only [decide_eq_true_eq]
  show c.val.toNat < 1114112
  rcases this with h | h
  · have : c.val.toNat < 55296 := h
    omega
  · exact h.2
theorem shaped_str {x : Str} (h : PyData.strOk x = true) : SeqAt.shaped (PyData.str x) = true := by unfold SeqAt.shaped; simp [PyData.canLay0, PyData.depth, h]
theorem gEq_str {x y : Str} (h : PyData.strOk x = true) (h' : PyData.strOk y = true) : gEq (.str x) (.str y) = some (.imm (.bl (decide (x = y)))) := by
  have : PyData.eqv (.str x) (.str y) = decide (x = y) := by
    by_cases e : x = y
    · subst e; simp [PyData.eqv]
    · simp [PyData.eqv, e]
  simp [gEq, toP, shaped_str h, shaped_str h', this]
theorem cells_ok (c : Int) (n : Nat) (hc : 0 ≤ c ∧ c < 100) : ∃ k : Nat, k < 100 ∧ (if 1 < (if (n : Int) < c then (n : Int) else c) then (if (n : Int) < c then (n : Int) else c) else 1) = (k : Int) := by
  by_cases h5 : (n : Int) < c
  · rw [if_pos h5]
    by_cases h1 : (1 : Int) < n
    · rw [if_pos h1]; exact ⟨n, by omega, rfl⟩
    · rw [if_neg h1]; exact ⟨1, by omega, rfl⟩
  · rw [if_neg h5]
    by_cases h1 : (1 : Int) < c
    · rw [if_pos h1]; exact ⟨c.toNat, by omega, by omega⟩
    · rw [if_neg h1]; exact ⟨1, by omega, rfl⟩
theorem blsOf_true : ∀ l : List Int, blsOf (l.map fun _ => D.bl true) = some (l.map fun _ => true)
  | [] => rfl
  | x :: l => by simp only [List.map_cons, blsOf, blsOf_true l, Option.map_some]
theorem gAll_true (l : List Int) : gAll [.lst (l.map fun _ => D.bl true)] = some (.imm (.bl true)) := by
  simp only [gAll, blsOf_true]
  simp
abbrev lawG (c : Int) (F : FD) : FS := sRet (fCal gAll (aOne (frz (fLc (stName 1) [1] (itRg1 (frz (fCal gMax (aCons (kD (.int 1)) (aCons (frz (fCal gMin (aCons (kD (.int c)) (aCons (frz (fCal gLen (aOne (vP 0)))) aNil)))) aNil))))) tTrue F))))
theorem law_of {c : Int} (hc : 0 ≤ c ∧ c < 100) {F : FD} (ns : List Int) (hF : ∀ a : Nat, a < 100 → F [some (.imm (.scr (ns.map D.int))), some (.imm (.int (a : Int)))] = .ok (.bl true) [some (.imm (.scr (ns.map D.int))), some (.imm (.int (a : Int)))]) : mir 2 1 (lawG c F) none [.scr (ns.map D.int)] = .ok (.imm (.bl true)) none := by
  obtain ⟨k, hk, ek⟩ := cells_ok c ns.length hc
  have ga := gAll_true (nats 0 k)
  have q : fLc (stName 1) [1] (itRg1 (frz (fCal gMax (aCons (kD (.int 1)) (aCons (frz (fCal gMin (aCons (kD (.int c)) (aCons (frz (fCal gLen (aOne (vP 0)))) aNil)))) aNil))))) tTrue F [some (.imm (.scr (ns.map D.int))), none] = .ok (.own (.l ((nats 0 k).map fun _ => D.bl true))) [some (.imm (.scr (ns.map D.int))), none] := by
    refine lc_intsD (xs := nats 0 k) (fun _ => .bl true) (itRg1_ok (by omega) (by simp [ek])) rfl (by rw [nats_len]; omega) (fun x hx => ?_)
    simp [nats] at hx
    obtain ⟨a, ha, rfl⟩ := hx
    exact hF a (by omega)
  generalize ((nats 0 k).map fun _ => D.bl true) = L at *
  have s4 : ∀ G : FS, mir 2 1 G none [.scr (ns.map D.int)] = outR none (G [some (.imm (.scr (ns.map D.int))), none]) := fun G => by simp [mir, ini, ioS, ioN]
  rw [s4]
  unfold lawG
  rw [ap_sRet, ap_fCal, ap_aOne, ap_frz, q]
  simp [ga, outR, ioOut]
end
end TS

namespace TS
def srcL (n : Nat) : Nat → List Int → List Int → List Int
  | _, [], acc => acc
  | i, x :: t, acc => srcL n (i + 1) t (acc.set (((i : Int) + x) % n).toNat i)
def srcs (t : List Int) : List Int := srcL t.length 0 t (List.replicate t.length 0)
theorem srcL_len (n : Nat) : ∀ (t : List Int) (i : Nat) (acc : List Int), (srcL n i t acc).length = acc.length
  | [], i, acc => rfl
  | x :: t, i, acc => by rw [srcL, srcL_len n t]; simp
theorem srcs_len (t : List Int) : (srcs t).length = t.length := by unfold srcs; rw [srcL_len]; simp
theorem srcL_stay (n : Nat) (hn : 0 < n) : ∀ (t : List Int) (i : Nat) (acc : List Int) (j : Nat), (∀ r ∈ rems n i t, r ≠ j) → (srcL n i t acc)[j]? = acc[j]?
  | [], i, acc, j, _ => rfl
  | x :: t, i, acc, j, h => by
    rw [srcL, srcL_stay n hn t (i + 1) _ j (fun r hr => h r (by simp [rems, hr]))]
    have h0 := h (((i : Int) + x) % n) (by simp [rems])
    have b := Int.emod_nonneg ((i : Int) + x) (show (n : Int) ≠ 0 by omega)
    rw [List.getElem?_set_ne (by omega)]
theorem srcL_at (n : Nat) (hn : 0 < n) : ∀ (t : List Int) (i : Nat) (acc : List Int) (k : Nat) (x : Int), acc.length = n → (rems n i t).Nodup → t[k]? = some x → (srcL n i t acc)[((((i + k : Nat) : Int) + x) % n).toNat]? = some ((i + k : Nat) : Int)
  | [], i, acc, k, x, _, _, h => by simp at h
  | y :: t, i, acc, 0, x, hl, hnd, h => by
    simp at h
    subst h
    have b0 := Int.emod_nonneg ((i : Int) + y) (show (n : Int) ≠ 0 by omega)
    have b1 := Int.emod_lt_of_pos ((i : Int) + y) (show 0 < (n : Int) by omega)
    rw [srcL]
    simp only [Nat.add_zero]
    have hnd' := List.nodup_cons.mp (show (((i : Int) + y) % n :: rems n (i + 1) t).Nodup from hnd)
    rw [srcL_stay n hn t (i + 1) _ _ (fun r hr e => hnd'.1 (by
      have : r = ((i : Int) + y) % n := by omega
      rw [← this]; exact hr))]
    rw [List.getElem?_set_self (by omega)]
  | y :: t, i, acc, k + 1, x, hl, hnd, h => by
    have hnd' := List.nodup_cons.mp (show (((i : Int) + y) % n :: rems n (i + 1) t).Nodup from hnd)
    have e := srcL_at n hn t (i + 1) (acc.set (((i : Int) + y) % n).toNat i) k x (by simp [hl]) hnd'.2 (by simpa using h)
    rw [srcL]
    have z : i + 1 + k = i + (k + 1) := by omega
    rw [z] at e
    exact e
theorem srcs_at {t : List Int} (h : Good t) {k : Nat} (hk : k < t.length) : (srcs t)[((((k : Nat) : Int) + act t k) % t.length).toNat]? = some (k : Int) := by
  have e := srcL_at t.length h.pos t 0 (List.replicate t.length 0) k (act t k) (by simp) h.rems (act_get' hk)
  rw [Nat.zero_add] at e
  exact e
theorem nd_le : ∀ (n : Nat) (l : List Nat), l.Nodup → (∀ x ∈ l, x < n) → l.length ≤ n
  | 0, l, _, h => by
    cases l with
    | nil => simp
    | cons a l => exact absurd (h a (by simp)) (by omega)
  | n + 1, l, hn, h => by
    by_cases hm : n ∈ l
    · have e := nd_le n (l.erase n) (hn.erase n) fun x hx => by
        have h1 := h x (List.mem_of_mem_erase hx)
        have h2 : x ≠ n := fun z => by
          subst z
          exact absurd hx (List.Nodup.not_mem_erase hn)
        omega
      rw [List.length_erase_of_mem hm] at e
      omega
    · have e := nd_le n l hn fun x hx => by
        have h1 := h x hx
        have h2 : x ≠ n := fun z => hm (z ▸ hx)
        omega
      omega
theorem nd_all (n : Nat) (l : List Nat) (hn : l.Nodup) (h : ∀ x ∈ l, x < n) (hl : l.length = n) (j : Nat) (hj : j < n) : j ∈ l := by
  refine Classical.byContradiction fun hm => ?_
  have := nd_le n (j :: l) (List.nodup_cons.mpr ⟨hm, hn⟩) (fun x hx => by
    rcases List.mem_cons.mp hx with rfl | hx
    · exact hj
    · exact h x hx)
  simp at this
  omega
theorem rems_bd {n : Nat} (hn : 0 < n) (t : List Int) (i : Nat) : ∀ r ∈ rems n i t, 0 ≤ r ∧ r < n := by
  intro r hr
  obtain ⟨j, hj, e⟩ := List.getElem_of_mem hr
  have := rems_get n t i j
  rw [List.getElem?_eq_getElem hj, e] at this
  obtain ⟨x, _, q⟩ := Option.map_eq_some_iff.mp this.symm
  rw [← q]
  exact ⟨Int.emod_nonneg _ (by omega), Int.emod_lt_of_pos _ (by omega)⟩
theorem src_ex {t : List Int} (h : Good t) {j : Nat} (hj : j < t.length) : ∃ k : Nat, k < t.length ∧ ((k : Int) + act t k) % t.length = j ∧ (srcs t)[j]? = some (k : Int) := by
  have hnd := h.rems
  have hb := rems_bd h.pos t 0
  have hm : j ∈ (rems t.length 0 t).map Int.toNat := by
    refine nd_all t.length _ ?_ ?_ ?_ j hj
    · unfold List.Nodup
      rw [List.pairwise_map]
      refine List.Pairwise.imp_of_mem ?_ hnd
      intro a b ha hb' hab e
      have := hb a ha
      have := hb b hb'
      omega
    · intro x hx
      obtain ⟨r, hr, rfl⟩ := List.mem_map.mp hx
      have := hb r hr
      omega
    · simp [rems_len]
  obtain ⟨r, hr, e⟩ := List.mem_map.mp hm
  obtain ⟨k, hk, ek⟩ := List.getElem_of_mem hr
  rw [rems_len] at hk
  have q := rems_get t.length t 0 k
  rw [List.getElem?_eq_getElem (by rw [rems_len]; exact hk), ek, act_get' hk, Option.map_some, Nat.zero_add] at q
  have q := Option.some.inj q
  have rb := hb r hr
  refine ⟨k, hk, by omega, ?_⟩
  have s := srcs_at h hk
  rw [← q, e] at s
  exact s
def inv (t : List Int) (x : Int) : Int := x - act t (act (srcs t) x)
theorem mv_inv {t : List Int} (h : Good t) (x : Int) : mv t (inv t x) = x := by
  have b0 := Int.emod_nonneg x (show (t.length : Int) ≠ 0 by have := h.pos; omega)
  have b1 := Int.emod_lt_of_pos x (show 0 < (t.length : Int) by have := h.pos; omega)
  obtain ⟨j, ej⟩ := Int.eq_ofNat_of_zero_le b0
  obtain ⟨k, hk, e1, e2⟩ := src_ex h (j := j) (by omega)
  have e3 : act (srcs t) x = k := by
    rw [← act_mod, srcs_len, ej]
    exact act_get e2
  unfold inv
  rw [e3]
  -- x = k + act t k + q n
  have d : ∃ q : Int, x - act t k = k + q * t.length := by
    have h1 := Int.emod_add_mul_ediv x t.length
    have h2 := Int.emod_add_mul_ediv ((k : Int) + act t k) t.length
    refine ⟨x / t.length - ((k : Int) + act t k) / t.length, ?_⟩
    rw [Int.sub_mul, Int.mul_comm _ (t.length : Int), Int.mul_comm _ (t.length : Int)]
    omega
  obtain ⟨q, hq⟩ := d
  rw [hq, mv_perk]
  unfold mv
  omega
end TS

namespace TS
def itr (f : Int → Int) : Nat → Int → Int
  | 0, x => x
  | k + 1, x => f (itr f k x)
def pwr (t : List Int) (n : Int) (x : Int) : Int := if 0 ≤ n then itr (mv t) n.toNat x else itr (inv t) (-n).toNat x
theorem pwr_zero (t : List Int) (x : Int) : pwr t 0 x = x := rfl
theorem pwr_succ {t : List Int} (h : Good t) (n : Int) (x : Int) : pwr t (n + 1) x = mv t (pwr t n x) := by
  unfold pwr
  by_cases h0 : 0 ≤ n
  · rw [if_pos h0, if_pos (by omega), show (n + 1).toNat = n.toNat + 1 by omega]; rfl
  · rw [if_neg h0]
    by_cases h1 : n = -1
    · subst h1
      rw [if_pos (by omega)]
      show x = mv t (inv t x)
      rw [mv_inv h]
    · rw [if_neg (by omega), show (-n).toNat = (-(n + 1)).toNat + 1 by omega]
      show _ = mv t (inv t _)
      rw [mv_inv h]
theorem pwr_uniq {t : List Int} (h : Good t) {x : Int} {g : Int → Int} (h0 : g 0 = x) (h1 : ∀ n, g (n + 1) = mv t (g n)) (n : Int) : g n = pwr t n x := by
  have up : ∀ k : Nat, g (k : Int) = pwr t k x := fun k => by
    induction k with
    | zero => rw [Int.natCast_zero, h0, pwr_zero]
    | succ k ih => rw [Int.natCast_succ, h1, ih, pwr_succ h]
  have dn : ∀ k : Nat, g (-(k : Int)) = pwr t (-(k : Int)) x := fun k => by
    induction k with
    | zero => simpa using up 0
    | succ k ih =>
      refine h.inj _ _ ?_
      rw [← h1, ← pwr_succ h]
      have : -((k + 1 : Nat) : Int) + 1 = -(k : Int) := by omega
      rw [this]; exact ih
  rcases Int.le_total 0 n with q | q
  · obtain ⟨k, rfl⟩ := Int.eq_ofNat_of_zero_le q
    exact up k
  · obtain ⟨k, e⟩ := Int.eq_ofNat_of_zero_le (show 0 ≤ -n by omega)
    have : n = -(k : Int) := by omega
    rw [this]; exact dn k
theorem pwr_add {t : List Int} (h : Good t) (m n x : Int) : pwr t (m + n) x = pwr t n (pwr t m x) :=
  pwr_uniq h (g := fun n => pwr t (m + n) x) (by show pwr t (m + 0) x = _; rw [Int.add_zero]) (fun n => by show pwr t (m + (n + 1)) x = _; rw [← Int.add_assoc, pwr_succ h]) n
theorem pwr_inj {t : List Int} (h : Good t) (n x y : Int) (e : pwr t n x = pwr t n y) : x = y := by
  have q : ∀ z, pwr t (-n) (pwr t n z) = z := fun z => by rw [← pwr_add h, Int.add_right_neg, pwr_zero]
  rw [← q x, e, q]
theorem pwr_perk {t : List Int} (h : Good t) (n x k : Int) : pwr t n (x + k * t.length) = pwr t n x + k * t.length :=
  (pwr_uniq h (g := fun n => pwr t n x + k * t.length) (by show pwr t 0 x + _ = _; rw [pwr_zero]) (fun n => by show pwr t (n + 1) x + _ = mv t (pwr t n x + _); rw [mv_perk, pwr_succ h]) n).symm
def nx (t : List Int) (j : Nat) : Nat := (((j : Int) + act t j) % t.length).toNat
theorem nx_int {t : List Int} (h : 0 < t.length) (j : Nat) : ((nx t j : Nat) : Int) = ((j : Int) + act t j) % t.length := by
  have := Int.emod_nonneg ((j : Int) + act t j) (show (t.length : Int) ≠ 0 by omega)
  unfold nx; omega
theorem nx_lt {t : List Int} (h : 0 < t.length) (j : Nat) : nx t j < t.length := by
  have := Int.emod_lt_of_pos ((j : Int) + act t j) (show 0 < (t.length : Int) by omega)
  have := nx_int h j
  omega
theorem nx_inj {t : List Int} (h : Good t) {j k : Nat} (hj : j < t.length) (hk : k < t.length) (e : nx t j = nx t k) : j = k := by
  have a := srcs_at h hj
  have b := srcs_at h hk
  unfold nx at e
  rw [e, b] at a
  have := Option.some.inj a
  omega
structure Path (t : List Int) (c : List Nat) : Prop where
  lt : ∀ j ∈ c, j < t.length
  step : ∀ (k : Nat) (a b : Nat), c[k]? = some a → c[k + 1]? = some b → b = nx t a
structure Cyc (t : List Int) (c : List Nat) : Prop where
  path : Path t c
  nd : c.Nodup
  ne : 0 < c.length
  close : ∀ a b, c[c.length - 1]? = some a → c[0]? = some b → b = nx t a
def sumK (t : List Int) (c : List Nat) : Nat → Int
  | 0 => 0
  | k + 1 => sumK t c k + act t (c.getD (k % c.length) 0)
def sumG (t : List Int) (c : List Nat) (k : Int) : Int := k / c.length * sumK t c c.length + sumK t c (k % c.length).toNat
theorem sumG_step {t : List Int} {c : List Nat} (hc : 0 < c.length) (k : Int) : sumG t c (k + 1) = sumG t c k + act t (c.getD (k % c.length).toNat 0) := by
  have b0 := Int.emod_nonneg k (show (c.length : Int) ≠ 0 by omega)
  have b1 := Int.emod_lt_of_pos k (show 0 < (c.length : Int) by omega)
  have e := Int.emod_add_mul_ediv k c.length
  obtain ⟨r, hr⟩ := Int.eq_ofNat_of_zero_le b0
  have hrl : r < c.length := by omega
  by_cases hl : r + 1 < c.length
  · have q : (k + 1) / (c.length : Int) = k / c.length ∧ (k + 1) % (c.length : Int) = r + 1 := by
      rw [Int.ediv_emod_unique (by omega)]
      refine ⟨?_, by omega, by omega⟩
      omega
    unfold sumG
    rw [q.1, q.2, hr]
    rw [show ((r : Int) + 1).toNat = r + 1 by omega, Int.toNat_natCast, sumK, Nat.mod_eq_of_lt hrl]
    omega
  · have hrm : r + 1 = c.length := by omega
    have q : (k + 1) / (c.length : Int) = k / c.length + 1 ∧ (k + 1) % (c.length : Int) = 0 := by
      rw [Int.ediv_emod_unique (by omega)]
      refine ⟨?_, by omega, by omega⟩
      rw [Int.mul_add, Int.mul_one]
      omega
    unfold sumG
    rw [q.1, q.2, hr]
    have e2 : sumK t c c.length = sumK t c r + act t (c.getD r 0) := by
      rw [← hrm, sumK, Nat.mod_eq_of_lt hrl]
    show (k / c.length + 1) * sumK t c c.length + sumK t c 0 = k / c.length * sumK t c c.length + sumK t c (r : Int).toNat + act t (c.getD (r : Int).toNat 0)
    rw [Int.toNat_natCast, Int.add_mul, Int.one_mul]
    show _ + 0 = _
    omega
theorem sumG_nat {t : List Int} {c : List Nat} (hc : 0 < c.length) : ∀ k : Nat, sumG t c (k : Int) = sumK t c k
  | 0 => by
    unfold sumG
    show 0 / (c.length : Int) * _ + sumK t c ((0 : Int) % c.length).toNat = 0
    rw [Int.zero_ediv, Int.zero_emod, Int.zero_mul]; rfl
  | k + 1 => by
    rw [Int.natCast_succ, sumG_step hc, sumG_nat hc k, sumK]
    congr 2
theorem sumG_lap {t : List Int} {c : List Nat} (hc : 0 < c.length) (k l : Int) : sumG t c (k + l * c.length) = sumG t c k + l * sumK t c c.length := by
  unfold sumG
  rw [Int.add_mul_emod_self_right, Int.add_mul_ediv_right _ _ (by omega), Int.add_mul]
  omega
theorem sumG_rem {t : List Int} {c : List Nat} (hc : Cyc t c) (ht : 0 < t.length) {c0 : Nat} (h0 : c[0]? = some c0) (k : Int) : ((c0 : Int) + sumG t c k) % t.length = (c.getD (k % c.length).toNat 0 : Nat) := by
  have hl := hc.ne
  have step : ∀ k : Int, ((c0 : Int) + sumG t c k) % t.length = (c.getD (k % c.length).toNat 0 : Nat) → ((c0 : Int) + sumG t c (k + 1)) % t.length = (c.getD ((k + 1) % c.length).toNat 0 : Nat) := by
    intro k e
    have b0 := Int.emod_nonneg k (show (c.length : Int) ≠ 0 by omega)
    have b1 := Int.emod_lt_of_pos k (show 0 < (c.length : Int) by omega)
    obtain ⟨r, hr⟩ := Int.eq_ofNat_of_zero_le b0
    have hrl : r < c.length := by omega
    rw [hr, Int.toNat_natCast] at e
    have ga : c[r]? = some (c.getD r 0) := by rw [List.getD_eq_getElem?_getD, List.getElem?_eq_getElem hrl]; rfl
    have nxt : c.getD ((k + 1) % c.length).toNat 0 = nx t (c.getD r 0) := by
      by_cases hll : r + 1 < c.length
      · have q : (k + 1) % (c.length : Int) = r + 1 := by
          rw [← Int.emod_add_emod, hr, Int.emod_eq_of_lt (by omega) (by omega)]
        rw [q, show ((r : Int) + 1).toNat = r + 1 by omega]
        refine hc.path.step r _ _ ga ?_
        rw [List.getD_eq_getElem?_getD, List.getElem?_eq_getElem hll]; rfl
      · have hrm : r + 1 = c.length := by omega
        have q : (k + 1) % (c.length : Int) = 0 := by
          rw [← Int.emod_add_emod, hr, show (r : Int) + 1 = c.length by omega, Int.emod_self]
        rw [q]
        refine hc.close _ _ (by rw [show c.length - 1 = r by omega]; exact ga) ?_
        show c[0]? = some (c.getD 0 0)
        rw [List.getD_eq_getElem?_getD, List.getElem?_eq_getElem hl]; rfl
    rw [nxt, nx_int ht, sumG_step hl, hr, Int.toNat_natCast, ← Int.add_assoc, ← Int.emod_add_emod, e]
  have base : ((c0 : Int) + sumG t c 0) % t.length = (c.getD ((0 : Int) % c.length).toNat 0 : Nat) := by
    have g0 : sumG t c 0 = 0 := sumG_nat hl 0
    rw [g0, Int.zero_emod, Int.add_zero]
    show (c0 : Int) % _ = (c.getD 0 0 : Nat)
    have : c.getD 0 0 = c0 := by rw [List.getD_eq_getElem?_getD, h0]; rfl
    rw [this]
    have := hc.path.lt c0 (List.mem_of_getElem? h0)
    exact Int.emod_eq_of_lt (by omega) (by omega)
  have nonneg : ∀ k : Nat, ((c0 : Int) + sumG t c k) % t.length = (c.getD ((k : Int) % c.length).toNat 0 : Nat) := fun k => by
    induction k with
    | zero => exact base
    | succ k ih => rw [Int.natCast_succ]; exact step k ih
  -- all k by whole laps
  have lap0 : sumK t c c.length % t.length = 0 := by
    have e1 := nonneg c.length
    rw [sumG_nat hl, Int.emod_self] at e1
    have : c.getD ((0 : Int)).toNat 0 = c0 := by
      show c.getD 0 0 = c0
      rw [List.getD_eq_getElem?_getD, h0]; rfl
    rw [this] at e1
    have hlt := hc.path.lt c0 (List.mem_of_getElem? h0)
    have e2 : ((c0 : Int) + sumK t c c.length - c0) % t.length = 0 := by
      rw [Int.sub_emod, e1, Int.emod_eq_of_lt (show (0 : Int) ≤ c0 by omega) (by omega), Int.sub_self, Int.zero_emod]
    rw [show (c0 : Int) + sumK t c c.length - c0 = sumK t c c.length by omega] at e2
    exact e2
  have hk : k = (k % c.length) + (k / c.length) * c.length := by
    have := Int.emod_add_mul_ediv k c.length
    rw [Int.mul_comm] at this
    omega
  have b0 := Int.emod_nonneg k (show (c.length : Int) ≠ 0 by omega)
  obtain ⟨r, hr⟩ := Int.eq_ofNat_of_zero_le b0
  have e3 := nonneg r
  have b1 := Int.emod_lt_of_pos k (show 0 < (c.length : Int) by omega)
  rw [show (r : Int) % (c.length : Int) = r from Int.emod_eq_of_lt (by omega) (by omega)] at e3
  rw [hr, ← e3]
  conv => lhs; rw [hk, sumG_lap hl, hr]
  rw [← Int.add_assoc, Int.add_emod, Int.mul_emod, lap0, Int.mul_zero, Int.zero_emod, Int.add_zero, Int.emod_emod_of_dvd _ (Int.dvd_refl _)]
end TS

namespace TS
open PySem L2
noncomputable section
def sm (f : Int → Int) : Nat → Int
  | 0 => 0
  | n + 1 => sm f n + f (n : Int)
theorem tabOf_sum (f : Int → Int) : ∀ n : Nat, (tabOf n f).sum = sm f n
  | 0 => rfl
  | n + 1 => by
    have e : tabOf (n + 1) f = tabOf n f ++ [f n] := by simp [tabOf, List.range_succ]
    rw [e, List.sum_append, tabOf_sum f n]
    simp [sm]
theorem sum_act (t : List Int) : t.sum = sm (act t) t.length := by
  conv => lhs; rw [← tabOf_self t]
  exact tabOf_sum _ _
theorem sm_congr {f g : Int → Int} : ∀ {n : Nat}, (∀ i : Nat, i < n → f i = g i) → sm f n = sm g n
  | 0, _ => rfl
  | n + 1, h => by
    simp only [sm]
    rw [sm_congr fun i hi => h i (by omega), h n (by omega)]
theorem sm_plus (f g : Int → Int) : ∀ n : Nat, sm (fun i => f i + g i) n = sm f n + sm g n
  | 0 => rfl
  | n + 1 => by simp only [sm]; rw [sm_plus f g n]; omega
theorem sm_minus (f g : Int → Int) : ∀ n : Nat, sm (fun i => f i - g i) n = sm f n - sm g n
  | 0 => rfl
  | n + 1 => by simp only [sm]; rw [sm_minus f g n]; omega
theorem sm_times (k : Int) (f : Int → Int) : ∀ n : Nat, sm (fun i => k * f i) n = k * sm f n
  | 0 => by simp [sm]
  | n + 1 => by simp only [sm]; rw [sm_times k f n, Int.mul_add]
theorem sm_const (k : Int) : ∀ n : Nat, sm (fun _ => k) n = n * k
  | 0 => by simp [sm]
  | n + 1 => by simp only [sm]; rw [sm_const k n, Int.natCast_succ, Int.add_mul, Int.one_mul]
theorem sm_add (f : Int → Int) (a : Nat) : ∀ b : Nat, sm f (a + b) = sm f a + sm (fun i => f (a + i)) b
  | 0 => by simp [sm]
  | b + 1 => by
    rw [← Nat.add_assoc]
    simp only [sm]
    rw [sm_add f a b, Int.natCast_add]
    omega
theorem sm_per {f : Int → Int} {p : Nat} (h : PerF f p) : ∀ k : Nat, sm f (k * p) = k * sm f p
  | 0 => by simp [sm]
  | k + 1 => by
    rw [Nat.succ_mul, sm_add, sm_per h k]
    have e : sm (fun i => f (((k * p : Nat) : Int) + i)) p = sm f p := sm_congr fun i hi => by
      rw [Int.natCast_mul, Int.add_comm]
      exact (h.mulN k) i
    rw [e, Int.natCast_succ, Int.add_mul, Int.one_mul]
theorem nd_len : ∀ (n : Nat) (l : List Int), l.Nodup → (∀ x ∈ l, 0 ≤ x ∧ x < n) → l.length ≤ n
  | 0, [], _, _ => Nat.le_refl _
  | 0, x :: l, _, h => by have := h x (by simp); omega
  | n + 1, l, hn, h => by
    have e : (l.erase (n : Int)).length ≤ n := nd_len n _ (hn.erase _) fun x hx => by
      have h1 := h x (List.mem_of_mem_erase hx)
      have h2 : x ≠ n := fun q => by subst q; exact (List.Nodup.not_mem_erase hn) hx
      omega
    have : l.length ≤ (l.erase (n : Int)).length + 1 := by
      rw [List.length_erase]; split <;> omega
    omega
theorem nd_perm : ∀ (n : Nat) (l : List Int), l.Nodup → (∀ x ∈ l, 0 ≤ x ∧ x < n) → l.length = n → l.Perm (nats 0 n)
  | 0, l, _, _, hl => by
    have : l = [] := List.length_eq_zero_iff.mp hl
    subst this
    exact List.Perm.refl _
  | n + 1, l, hn, h, hl => by
    have hm : (n : Int) ∈ l := by
      by_cases hm : (n : Int) ∈ l
      · exact hm
      · have := nd_len n l hn fun x hx => by
          have h1 := h x hx
          have h2 : x ≠ n := fun q => by subst q; exact hm hx
          omega
        omega
    have e := nd_perm n (l.erase (n : Int)) (hn.erase _) (fun x hx => by
      have h1 := h x (List.mem_of_mem_erase hx)
      have h2 : x ≠ n := fun q => by subst q; exact (List.Nodup.not_mem_erase hn) hx
      omega) (by rw [List.length_erase_of_mem hm]; omega)
    have e2 : nats 0 (n + 1) = nats 0 n ++ [(n : Int)] := by simp [nats, List.range'_concat]
    rw [e2]
    exact (List.perm_cons_erase hm).trans ((e.cons _).trans (List.perm_append_comm (l₁ := [(n : Int)])))
theorem perm_sum {a b : List Int} (h : a.Perm b) : a.sum = b.sum := by
  induction h with
  | nil => rfl
  | cons x _ ih => simp [ih]
  | swap x y l => simp; omega
  | trans _ _ h1 h2 => exact h1.trans h2
theorem tabOf_nodup {n : Nat} {g : Int → Int} (h : ∀ i j : Nat, i < n → j < n → g i = g j → i = j) : (tabOf n g).Nodup := by
  rw [nodup_iff]
  intro i j hij hj e
  rw [tabOf_len] at hj
  simp only [tabOf, List.getElem?_map, List.getElem?_range hj, List.getElem?_range (show i < n by omega), Option.map_some] at e
  have := h i j (by omega) hj (Option.some.inj e)
  omega
theorem tabOf_perm {n : Nat} {g : Int → Int} (h : ∀ i j : Nat, i < n → j < n → g i = g j → i = j) (hb : ∀ i : Nat, i < n → 0 ≤ g i ∧ g i < n) : (tabOf n g).Perm (nats 0 n) :=
  nd_perm n _ (tabOf_nodup h) (fun x hx => by
    obtain ⟨i, hi, rfl⟩ := List.mem_map.mp hx
    exact hb i (by simpa using hi)) (tabOf_len _ _)
theorem nats_tab (n : Nat) : nats 0 n = tabOf n id := by simp [nats, tabOf, List.range_eq_range']
theorem sm_comp (f : Int → Int) {n : Nat} {g : Int → Int} (h : ∀ i j : Nat, i < n → j < n → g i = g j → i = j) (hb : ∀ i : Nat, i < n → 0 ≤ g i ∧ g i < n) : sm (fun i => f (g i)) n = sm f n := by
  have p := (tabOf_perm h hb).map f
  have q := perm_sum p
  rw [nats_tab] at q
  simp only [tabOf, List.map_map] at q
  have e1 := tabOf_sum (fun i => f (g i)) n
  have e2 := tabOf_sum f n
  simp only [tabOf] at e1 e2
  rw [← e1, ← e2]
  exact q
theorem rem_inj {t : List Int} (h : Good t) {n : Nat} (hd : t.length ∣ n) (h0 : 0 < n) (c : Int) : ∀ i j : Nat, i < n → j < n → (mv t i - c) % n = (mv t j - c) % n → i = j := by
  intro i j hi hj e
  have e2 : (n : Int) ∣ (mv t i - mv t j) := by
    have := Int.dvd_of_emod_eq_zero (Int.emod_eq_emod_iff_emod_sub_eq_zero.mp e)
    rwa [show mv t i - c - (mv t j - c) = mv t i - mv t j by omega] at this
  obtain ⟨k, hk⟩ := e2
  obtain ⟨m, rfl⟩ := hd
  have e3 : mv t i = mv t ((j : Int) + (m * k) * t.length) := by
    rw [mv_perk]
    have : ((t.length * m : Nat) : Int) * k = m * k * t.length := by rw [Int.natCast_mul, Int.mul_comm (t.length : Int), Int.mul_right_comm]
    omega
  have e4 := h.inj _ _ e3
  have e5 : ((m : Int) * k) * t.length = ((t.length * m : Nat) : Int) * k := by rw [Int.natCast_mul, Int.mul_comm (t.length : Int), Int.mul_right_comm]
  rw [e5] at e4
  have hk0 : k = 0 := by
    rcases Int.lt_trichotomy k 0 with hk | hk | hk
    · have : ((t.length * m : Nat) : Int) * k ≤ ((t.length * m : Nat) : Int) * (-1) := Int.mul_le_mul_of_nonneg_left (by omega) (by omega)
      omega
    · exact hk
    · have : ((t.length * m : Nat) : Int) * 1 ≤ ((t.length * m : Nat) : Int) * k := Int.mul_le_mul_of_nonneg_left (by omega) (by omega)
      omega
  subst hk0
  omega
theorem rem_sum {t : List Int} (h : Good t) {n : Nat} (hd : t.length ∣ n) (h0 : 0 < n) (c : Int) (f : Int → Int) (hf : PerF f n) : sm (fun i => f (mv t i - c)) n = sm f n := by
  have e := sm_comp f (g := fun i => (mv t i - c) % n) (rem_inj h hd h0 c) fun i _ => ⟨Int.emod_nonneg _ (by omega), Int.emod_lt_of_pos _ (by omega)⟩
  rw [← e]
  exact sm_congr fun i _ => (per_mod hf _).symm
theorem good_id : Good [0] := by
  refine ⟨by decide, by decide, fun x y e => ?_⟩
  have : ∀ x, act [0] x = 0 := fun x => by rw [← act_mod]; simp [act]
  simpa [mv, this] using e
theorem mv_id (x : Int) : mv [0] x = x := by
  have : act [0] x = 0 := by rw [← act_mod]; simp [act]
  simp [mv, this]
def cnt (t : List Int) (c : Int) : Int := sm (fun i => (i + act t i - c) / t.length - (i - c) / t.length) t.length
theorem cnt_sum {t : List Int} (h : Good t) (c : Int) : t.length * cnt t c = t.sum := by
  have hp := h.pos
  unfold cnt
  rw [← sm_times, sum_act]
  have r1 := rem_sum h (Nat.dvd_refl _) hp c (fun z => z % t.length) (fun z => by simp)
  have r2 := rem_sum good_id (n := t.length) ⟨t.length, by simp⟩ hp c (fun z => z % t.length) (fun z => by simp)
  simp only [mv_id] at r2
  have e : sm (fun i => (t.length : Int) * ((i + act t i - c) / t.length - (i - c) / t.length)) t.length = sm (fun i => act t i - ((mv t i - c) % t.length - (i - c) % t.length)) t.length := sm_congr fun i _ => by
    have a1 := Int.mul_ediv_add_emod (i + act t i - c) t.length
    have a2 := Int.mul_ediv_add_emod ((i : Int) - c) t.length
    unfold mv
    rw [Int.mul_sub]
    omega
  rw [e, sm_minus, sm_minus, r1, r2]
  omega
def flw (t : List Int) : Int := t.sum / t.length
theorem cnt_flw {t : List Int} (h : Good t) (c : Int) : cnt t c = flw t := by
  unfold flw
  rw [← cnt_sum h c, Int.mul_ediv_cancel_left _ (by have := h.pos; omega)]
theorem flw_sum {t : List Int} (h : Good t) : t.sum = t.length * flw t := by rw [← cnt_flw h 0, cnt_sum h]
theorem flw_per {t : List Int} (h : Good t) {n : Nat} (h0 : 0 < n) (hp : PerF (act t) n) : sm (act t) n = n * flw t := by
  have a1 := sm_per (act_per t) n
  have a2 := sm_per hp t.length
  rw [Nat.mul_comm, a2, ← sum_act, flw_sum h] at a1
  have : (t.length : Int) * sm (act t) n = t.length * (n * flw t) := by rw [a1, ← Int.mul_assoc, ← Int.mul_assoc, Int.mul_comm (n : Int)]
  exact Int.eq_of_mul_eq_mul_left (by have := h.pos; omega) this
theorem lc_gen {α : Type} {inj : α → D} {setT : D → Sl → Option Sl} {vs : List Nat} {fi : FA} {ft : FT} {fe : FD} {δ δ1 : Sl} {xs : List α} (p : α → Bool) (out : α → D) (δw : Sl) (h1 : fi δ = .ok (xs.map inj) δ1) (hfree : vs.all (freeS δ1) = true) (hw : wipeD δ1 vs = δw) (hr : restD δ1 vs δw = δ1) (hlen : xs.length ≤ 16777216)
    (he : ∀ x ∈ xs, ∃ δx, setT (inj x) δw = some δx ∧ ft δx = .ok (p x) δx ∧ (p x = true → fe δx = .ok (out x) δx) ∧ wipeD δx vs = δw) : fLc setT vs fi ft fe δ = .ok (.own (.l ((xs.filter p).map out))) δ1 := by
  have key : ∀ (ys : List α) (acc : List D), (∀ y ∈ ys, y ∈ xs) → acc.length + ys.length ≤ 16777216 → lcL setT vs ft fe (ys.map inj) acc δw = .ok (acc ++ (ys.filter p).map out) δw := by
    intro ys
    induction ys with
    | nil => intro acc _ _; simp [lcL]
    | cons y ys ih =>
      intro acc hm hl
      obtain ⟨δx, e1, e2, e3, e4⟩ := he y (hm y (by simp))
      simp only [List.map_cons, lcL, e1, e2, noX, Res.bind_ok]
      cases hp : p y with
      | true =>
        rw [if_pos rfl, e3 hp]
        simp only [noX, Res.bind_ok]
        rw [if_pos (by simp at hl; omega), e4, ih (acc ++ [out y]) (fun z hz => hm z (by simp [hz])) (by simp at hl ⊢; omega)]
        simp [hp]
      | false =>
        rw [if_neg (by simp), e4, ih acc (fun z hz => hm z (by simp [hz])) (by simp at hl ⊢; omega)]
        simp [hp]
  unfold fLc
  rw [h1, Res.bind_ok, if_pos hfree, hw, key xs [] (fun _ h => h) (by simpa using hlen), Res.bind_ok]
  simp only [List.nil_append, hr]
theorem lc_all {α : Type} {inj : α → D} {setT : D → Sl → Option Sl} {vs : List Nat} {fi : FA} {fe : FD} {δ δ1 : Sl} {xs : List α} (out : α → D) (δw : Sl) (h1 : fi δ = .ok (xs.map inj) δ1) (hfree : vs.all (freeS δ1) = true) (hw : wipeD δ1 vs = δw) (hr : restD δ1 vs δw = δ1) (hlen : xs.length ≤ 16777216)
    (he : ∀ x ∈ xs, ∃ δx, setT (inj x) δw = some δx ∧ fe δx = .ok (out x) δx ∧ wipeD δx vs = δw) : fLc setT vs fi tTrue fe δ = .ok (.own (.l (xs.map out))) δ1 := by
  have := lc_gen (ft := tTrue) (fun _ => true) out δw h1 hfree hw hr hlen fun x hx => by
    obtain ⟨δx, e1, e2, e3⟩ := he x hx
    exact ⟨δx, e1, rfl, fun _ => e2, e3⟩
  rw [this, List.filter_eq_self.mpr (fun _ _ => rfl)]
theorem gSum_l (xs : List Int) : gSum [.lst (iL xs)] = some (.imm (.int xs.sum)) := by simp [gSum, intsD_ints]
end
end TS

namespace TS
open PySem L2
noncomputable section
theorem strOk_app {a b : Str} (h : PyData.strOk a = true) (h' : PyData.strOk b = true) : PyData.strOk (a ++ b) = true := by
  have e : (a ++ b).cps = a.cps ++ b.cps := rfl
  unfold PyData.strOk at *
  rw [e, Array.all_append, h, h']; rfl
theorem strOk_from : ∀ (ts : List Str) (k : Nat) (acc : Str), PyData.strOk acc = true → (∀ t ∈ ts, PyData.strOk t = true) → PyData.strOk (textFrom k acc ts) = true
  | [], _, _, h, _ => h
  | t :: ts, k, acc, h, ht => strOk_from ts (k + 1) _ (strOk_app (strOk_app h (strOk_of _)) (ht t (by simp))) fun x hx => ht x (by simp [hx])
theorem strOk_join : ∀ (ts : List Str), (∀ t ∈ ts, PyData.strOk t = true) → PyData.strOk (Str.join ", " ts) = true
  | [], _ => strOk_of ""
  | [x], h => h x (by simp)
  | x :: y :: r, h => strOk_app (strOk_app (h x (by simp)) (strOk_of _)) (strOk_join (y :: r) fun z hz => h z (by simp [hz]))
mutual
def fine : PyData → Prop
  | .none => True
  | .bool _ => True
  | .int i => i.natAbs < 2 ^ 255
  | .str x => PyData.strOk (PyData.shown (.str x)) = true ∧ PyData.showable (.str x) = true ∧ PyData.leavesShort 80 (.str x) = true
  | .list xs => fineAll xs
  | .tuple xs => fineAll xs
  | .dict _ => False
def fineAll : List PyData → Prop
  | [] => True
  | x :: xs => fine x ∧ fineAll xs
end
theorem int_log {i : Int} (h : i.natAbs < 2 ^ 255) : i.natAbs.log2 < 1920 := by
  have := log2_lt h (by decide)
  omega
mutual
theorem fine_show : ∀ p : PyData, fine p → p.showable = true ∧ p.hasDict = false ∧ p.leavesShort 80 = true
  | .none, _ => by simp [PyData.showable, PyData.hasDict, PyData.leavesShort]
  | .bool b, _ => by simp [PyData.showable, PyData.hasDict, PyData.leavesShort]
  | .int i, h => by
    unfold fine at h
    have h2 := int_log h
    have h3 : (PyData.shown (.int i)).length ≤ 80 := by
      unfold PyData.shown
      have e := int_text_length_le10 (a := i) (k := 78) (by decide) (Nat.lt_trans h (by decide))
      show (Str.ofString (toString i)).length ≤ 80
      simp only [Str.length, Str.ofString_eq_toList, List.size_toArray, List.length_map]
      rw [String.length_toList]
      omega
    simp [PyData.showable, PyData.hasDict, PyData.leavesShort, h2, h3]
  | .str _, h => by unfold fine at h; exact ⟨h.2.1, by simp [PyData.hasDict], h.2.2⟩
  | .list xs, h => by
    unfold fine at h
    unfold PyData.showable PyData.hasDict PyData.leavesShort
    exact fineAll_show xs h
  | .tuple xs, h => by
    unfold fine at h
    unfold PyData.showable PyData.hasDict PyData.leavesShort
    exact fineAll_show xs h
  | .dict _, h => by simp [fine] at h
theorem fineAll_show : ∀ xs : List PyData, fineAll xs → PyData.showableAll xs = true ∧ PyData.hasDictAll xs = false ∧ PyData.leavesShortAll 80 xs = true
  | [], _ => by simp [PyData.showableAll, PyData.hasDictAll, PyData.leavesShortAll]
  | x :: xs, h => by
    unfold fineAll at h
    have h1 := fine_show x h.1
    have h2 := fineAll_show xs h.2
    simp [PyData.showableAll, PyData.hasDictAll, PyData.leavesShortAll, h1, h2]
end
theorem fine_sh {p : PyData} (h : fine p) (hd : p.depth ≤ 32) (hb : p.bulk ≤ 100000) : shOk p = true := by
  obtain ⟨h1, h2, h3⟩ := fine_show p h
  have := PyData.shown_le_bulk 80 (by decide) p h3
  exact gd_true ⟨h1, h2, hd, by show _ ≤ 2 ^ 24; omega⟩
theorem repr_fine {d : D} {p : PyData} (e : toP d = some p) (h : fine p) (hd : p.depth ≤ 32) (hb : p.bulk ≤ 100000) : gRepr [d] = some (.imm (.str p.shown)) := by
  simp only [gRepr, e, fine_sh h hd hb, if_true]
end
end TS

namespace TS
theorem per_dvd {t : List Int} (h : 0 < t.length) {n : Nat} (h0 : 0 < n) (hp : PerF (act t) n) : (least t).length ∣ n := by
  have m := leastP_min h
  rw [least_length h]
  have g := PerF.gcd (leastP t) n (leastP_dvd h).2.2 hp
  have hg : 0 < Nat.gcd (leastP t) n := Nat.gcd_pos_of_pos_right _ h0
  have := m.min _ hg g
  have e : Nat.gcd (leastP t) n = leastP t := Nat.le_antisymm (Nat.gcd_le_left _ (leastP_dvd h).2.1) this
  rw [← e]
  exact Nat.gcd_dvd_right _ _
theorem sm_mv {t : List Int} (h : Good t) {n : Nat} (h0 : 0 < n) (hp : PerF (act t) n) (f : Int → Int) (hf : PerF f n) : sm (fun i => f (mv t i)) n = sm f n := by
  have hd := per_dvd h.pos h0 hp
  have := rem_sum h.least hd h0 0 f hf
  simp only [Int.sub_zero, mv_least h] at this
  exact this
structure PF (u : List Int) (F B : Int) : Prop where
  good : Good u
  flow : flw u = F
  bd : ∀ x, -B ≤ act u x ∧ act u x ≤ B
  per : PerF (act u) (2520 : Nat)
theorem PF.sum {u : List Int} {F B : Int} (h : PF u F B) : sm (act u) 2520 = 2520 * F := by
  rw [← h.flow]; exact flw_per h.good (by decide) h.per
theorem PF.dvd {u : List Int} {F B : Int} (h : PF u F B) : (least u).length ∣ 2520 := per_dvd h.good.pos (by decide) h.per
theorem PF.lcm {u v : List Int} {F B F' B' : Int} (h : PF u F B) (h' : PF v F' B') : Nat.lcm (least u).length (least v).length ≤ 2520 := Nat.le_of_dvd (by decide) (Nat.lcm_dvd h.dvd h'.dvd)
theorem PF.mvper {u : List Int} {F B : Int} (h : PF u F B) (x : Int) : mv u (x + (2520 : Nat)) = mv u x + (2520 : Nat) := by
  unfold mv; rw [h.per]; omega
theorem PF.of_sum {u : List Int} {F B : Int} (g : Good u) (hp : PerF (act u) (2520 : Nat)) (hs : sm (act u) 2520 = 2520 * F) (hb : ∀ x, -B ≤ act u x ∧ act u x ≤ B) : PF u F B :=
  ⟨g, by have := flw_per g (by decide) hp; rw [hs] at this; omega, hb, hp⟩
theorem PF.mono {u : List Int} {F B B' : Int} (h : PF u F B) (hb : B ≤ B') : PF u F B' := ⟨h.good, h.flow, fun x => by have := h.bd x; omega, h.per⟩
theorem PF.join {u v w : List Int} {F B F' B' : Int} (h : PF u F B) (h' : PF v F' B') (g : Good w) (e : ∀ x, mv w x = mv v (mv u x)) : PF w (F + F') (B + B') := by
  have ea : ∀ x, act w x = act u x + act v (mv u x) := fun x => by
    have := e x
    unfold mv at this ⊢
    omega
  refine PF.of_sum g (fun x => ?_) ?_ fun x => ?_
  · rw [ea, ea, h.per, h.mvper, h'.per]
  · rw [sm_congr (g := fun i => act u i + act v (mv u i)) fun i _ => ea i, sm_plus, sm_mv h.good (by decide) h.per _ h'.per, h.sum, h'.sum, Int.mul_add]
  · have := h.bd x
    have := h'.bd (mv u x)
    rw [ea]; omega
theorem PF.id : PF [0] 0 0 := by
  have a : ∀ x, act [0] x = 0 := fun x => by have := mv_id x; unfold mv at this; omega
  exact PF.of_sum good_id (fun x => by rw [a, a]) (by rw [sm_congr (g := fun _ => 0) fun i _ => a i, sm_const]; rfl) fun x => by rw [a]; omega
end TS

namespace TS
open PySem L2
theorem for_st {fi : FA} {tg : R → Sl → SR} {body : FS} {δ δ1 : Sl} {ds : List D} {s : SR} (h1 : fi δ = .ok ds δ1) (h2 : forL tg body ds δ1 = s) : sFor fi tg body δ = s := by
  rw [ap_sFor, h1, Res.bindS_ok, h2]
end TS

namespace TS
open PySem L2
end TS

namespace TS
open PySem L2
noncomputable section
@[simp] theorem ap_fLenSet (f : FD) (δ : Sl) : fLenSet f δ = (f δ).bind fun d δ => match d with
  | .lst ds => (match intsD ds with
    | some ns => if ns.length ≤ 4000 then .ok (.int (ns.eraseDups.length : Nat)) δ else .bad
    | none => .bad)
  | _ => .bad := id rfl
@[simp] theorem ap_fxNil (δ : Sl) : fxNil δ = .ok [] δ := id rfl
@[simp] theorem ap_fxCons (f : FE) (g : FX) (δ : Sl) : fxCons f g δ = (f δ).bind fun r δ1 => match r with
  | .brw _ => .bad
  | .nst _ _ => .bad
  | r => (g δ1).bind fun rs δ2 => .ok (r :: rs) δ2 := id rfl
@[simp] theorem ap_sPar2E (i j : Nat) (f : FX) (δ : Sl) : sPar2E i j f δ = (f δ).bindS fun rs δ1 => match rs with
  | [a, b] => if i < δ1.length then .nx ((δ1.set i (some a)).set j (some b)) else .bad
  | _ => .bad := id rfl
@[simp] theorem ap_sPar3E (i j l : Nat) (f : FX) (δ : Sl) : sPar3E i j l f δ = (f δ).bindS fun rs δ1 => match rs with
  | [a, b, c] => if i < δ1.length ∧ j < δ1.length then .nx (((δ1.set i (some a)).set j (some b)).set l (some c)) else .bad
  | _ => .bad := id rfl
theorem nats_at {n j : Nat} (h : j < n) : (nats 0 n)[j]? = some (j : Int) := by simp [nats, h]
theorem nats_pre {n : Nat} {pre post : List Int} {x : Int} (e : nats 0 n = pre ++ x :: post) : x = (pre.length : Int) ∧ pre.length < n := by
  have h := pre_get e
  have hl : pre.length < (nats 0 n).length := (List.getElem?_eq_some_iff.mp h).1
  rw [nats_len] at hl
  rw [nats_at hl] at h
  exact ⟨(Option.some.inj h).symm, hl⟩
theorem nats_mem {n : Nat} {x : Int} (h : x ∈ nats 0 n) : 0 ≤ x ∧ x < n := by
  simp [nats] at h
  obtain ⟨a, ha, rfl⟩ := h
  omega
theorem nats_nodup (n : Nat) : (nats 0 n).Nodup := by
  rw [nodup_iff]
  intro i j hij hj e
  rw [nats_len] at hj
  rw [nats_at hj, nats_at (show i < n by omega)] at e
  have := Option.some.inj e
  omega
theorem good_goals {goals t : List Int} {n : Nat} (h0 : 0 < n) (h1 : n ≤ 2520) (q : goals.Perm (nats 0 n)) (l : t.length = n) (r : ∀ j : Nat, j < t.length → ∃ g u : Int, goals[j]? = some g ∧ t[j]? = some (g - j + n * u)) : Good t := by
  have hgl : goals.length = n := by rw [q.length_eq, nats_len]
  have hgb : ∀ g ∈ goals, 0 ≤ g ∧ g < n := fun g hg => nats_mem (q.mem_iff.mp hg)
  have hgn : goals.Nodup := (List.Perm.nodup_iff q).mpr (nats_nodup n)
  refine good_of_rems (by omega) (by omega) ?_
  have : rems t.length 0 t = goals := by
    apply List.ext_getElem?
    intro j
    rw [rems_get]
    by_cases hj : j < t.length
    · obtain ⟨g, u, h1, h5⟩ := r j hj
      rw [h5, h1]
      simp only [Option.map_some, Option.some.injEq, Nat.zero_add]
      obtain ⟨g0, g1⟩ := hgb g (List.mem_of_getElem? h1)
      rw [l, show (j : Int) + (g - j + n * u) = g + n * u by omega, Int.add_mul_emod_self_left, Int.emod_eq_of_lt g0 g1]
    · rw [List.getElem?_eq_none (by omega), List.getElem?_eq_none (by omega)]; rfl
  rw [this]; exact hgn
theorem act_bd {t : List Int} (h0 : 0 < t.length) {B : Int} (h : ∀ x ∈ t, -B < x ∧ x < B) (x : Int) : -B < act t x ∧ act t x < B := by
  have b0 := Int.emod_nonneg x (show (t.length : Int) ≠ 0 by omega)
  have b1 := Int.emod_lt_of_pos x (show 0 < (t.length : Int) by omega)
  have hi : (x % (t.length : Int)).toNat < t.length := by omega
  unfold act
  rw [List.getD_eq_getElem?_getD, List.getElem?_eq_getElem hi]
  exact h _ (List.getElem_mem hi)
structure IsLap (t : List Int) (x : Int) (m : Nat) : Prop where
  pos : 0 < m
  le : m ≤ t.length
  dv : (pwr t (m : Int) x - x) % t.length = 0
  min : ∀ j : Nat, 0 < j → j < m → (pwr t (j : Int) x - x) % t.length ≠ 0
theorem pwr_lapN {t : List Int} (h : Good t) {m : Nat} {x q : Int} (e : pwr t (m : Int) x = x + q * t.length) : ∀ j : Nat, pwr t ((j : Int) * m) x = x + j * q * t.length
  | 0 => by simp [pwr_zero]
  | j + 1 => by
    rw [Int.natCast_succ, Int.add_mul, Int.one_mul, pwr_add h, pwr_lapN h e j, pwr_perk h, e, Int.add_mul, Int.one_mul, Int.add_mul]
    omega
theorem pwr_lapM {t : List Int} (h : Good t) {m : Nat} {x q : Int} (e : pwr t (m : Int) x = x + q * t.length) : ∀ j : Nat, pwr t (-(j : Int) * m) x = x + -(j : Int) * q * t.length
  | 0 => by simp [pwr_zero]
  | j + 1 => by
    have ih := pwr_lapM h e j
    have e2 : -((j + 1 : Nat) : Int) * m + m = -(j : Int) * m := by
      rw [Int.natCast_succ, Int.neg_add, Int.add_mul, Int.neg_mul 1, Int.one_mul]; omega
    rw [← e2, pwr_add h] at ih
    have e3 : x + -(j : Int) * q * t.length = pwr t (m : Int) (x + (-((j + 1 : Nat) : Int) * q) * t.length) := by
      rw [pwr_perk h, e, Int.natCast_succ, Int.neg_add, Int.add_mul, Int.add_mul, Int.neg_mul 1, Int.one_mul, Int.neg_mul q]
      omega
    rw [e3] at ih
    exact pwr_inj h _ _ _ ih
theorem pwr_lap {t : List Int} (h : Good t) {m : Nat} {x q : Int} (e : pwr t (m : Int) x = x + q * t.length) (j : Int) : pwr t (j * m) x = x + j * q * t.length := by
  rcases Int.le_total 0 j with z | z
  · obtain ⟨k, rfl⟩ := Int.eq_ofNat_of_zero_le z
    exact pwr_lapN h e k
  · obtain ⟨k, hk⟩ := Int.eq_ofNat_of_zero_le (show 0 ≤ -j by omega)
    have : j = -(k : Int) := by omega
    subst this
    exact pwr_lapM h e k
theorem IsLap.far {t : List Int} {x : Int} {m : Nat} (l : IsLap t x m) : pwr t (m : Int) x = x + (pwr t (m : Int) x - x) / t.length * t.length := by
  have := Int.ediv_mul_cancel_of_emod_eq_zero l.dv
  omega
theorem IsLap.after {t : List Int} (h : Good t) {x : Int} {m : Nat} (l : IsLap t x m) (k : Int) : pwr t (k % m) (x + k / m * (pwr t (m : Int) x - x)) = pwr t k x := by
  have e1 := pwr_lap h l.far (k / m)
  have e2 : k / m * ((pwr t (m : Int) x - x) / t.length) * t.length = k / m * (pwr t (m : Int) x - x) := by
    rw [Int.mul_assoc, Int.ediv_mul_cancel_of_emod_eq_zero l.dv]
  rw [e2] at e1
  have e3 : k / m * m + k % m = k := by have := Int.mul_ediv_add_emod k m; rw [Int.mul_comm] at this; omega
  rw [← e1, ← pwr_add h, e3]
end
end TS

namespace TS
open PySem L2
noncomputable section
@[simp] theorem ap_fChain (g g' : D → D → Option R) (fa fb fc : FD) (δ : Sl) : fChain g g' fa fb fc δ = (fa δ).bind fun x δ1 => (fb δ1).bind fun y δ2 => match g x y with
  | some (.imm (.bl true)) => (fc δ2).bind fun w δ3 => (match g' y w with
    | some z => .ok z δ3
    | none => .bad)
  | some (.imm (.bl false)) => .ok (.imm (.bl false)) δ2
  | _ => .bad := id rfl
@[simp] theorem ap_fGet (fo fk fx : FD) (δ : Sl) : fGet fo fk fx δ = (fo δ).bind fun d δ1 => if isDD d then (fk δ1).bind fun k δ2 => (fx δ2).bind fun x δ3 => (match gGet d k x with
  | some z => .ok z δ3
  | none => .bad) else .bad := id rfl
def isI : Option R → Bool
  | none => true
  | some (.imm _) => true
  | _ => false
theorem immS_cons (x : Option R) (l : Sl) : immS (x :: l) = (isI x && immS l) := by
  cases x with
  | none => rfl
  | some r => cases r <;> rfl
theorem immS_nil : immS [] = true := rfl
@[simp] theorem isI_none : isI none = true := rfl
@[simp] theorem isI_imm (d : D) : isI (some (.imm d)) = true := rfl
theorem look_put {κ : Type} [DecidableEq κ] : ∀ {ks : List κ} {ds : List D} (k : κ) (d : D), ks.length = ds.length → (∀ k', lookD (putD ks ds k d).1 (putD ks ds k d).2 k' = if k' = k then some d else lookD ks ds k') ∧ (putD ks ds k d).1.length = (putD ks ds k d).2.length ∧ (putD ks ds k d).2.length ≤ ds.length + 1 := by
  intro ks ds k d hl
  have app : ∀ (ks : List κ) (ds : List D), ks.length = ds.length → (ks.any fun k' => decide (k' = k)) = false → ∀ k', lookD (ks ++ [k]) (ds ++ [d]) k' = if k' = k then some d else lookD ks ds k' := by
    intro ks
    induction ks with
    | nil =>
      intro ds hl _ k'
      cases ds with
      | nil =>
        by_cases z : k = k'
        · subst z; simp [lookD]
        · simp [lookD, z, Ne.symm z]
      | cons d' ds => simp at hl
    | cons a ks ih =>
      intro ds hl ha k'
      cases ds with
      | nil => simp at hl
      | cons d' ds =>
        rw [List.any_cons, Bool.or_eq_false_iff] at ha
        have ih := ih ds (by simpa using hl) ha.2 k'
        have hak : a ≠ k := of_decide_eq_false ha.1
        simp only [List.cons_append, lookD, ih]
        by_cases z : a = k'
        · subst z; simp [hak]
        · simp [z]
  have rep : ∀ (ks : List κ) (ds : List D), ks.length = ds.length → (ks.any fun k' => decide (k' = k)) = true → (∀ k', lookD ks (repD k d ks ds) k' = if k' = k then some d else lookD ks ds k') ∧ (repD k d ks ds).length = ds.length := by
    intro ks
    induction ks with
    | nil => intro ds _ h; simp at h
    | cons a ks ih =>
      intro ds hl ha
      cases ds with
      | nil => simp at hl
      | cons d' ds =>
        by_cases hany : (ks.any fun k' => decide (k' = k)) = true
        · obtain ⟨i1, i2⟩ := ih ds (by simpa using hl) hany
          refine ⟨fun k' => ?_, by simp [repD, i2]⟩
          simp only [repD, lookD, i1]
          by_cases z : a = k'
          · subst z
            by_cases w : a = k
            · simp [w]
            · simp [w]
          · simp [z]
        · have hak : a = k := by
            rw [List.any_cons] at ha
            simp only [Bool.not_eq_true] at hany
            rw [hany, Bool.or_false] at ha
            exact of_decide_eq_true ha
          have same : ∀ (ks : List κ) (ds : List D), ks.length = ds.length → ¬ (ks.any fun k' => decide (k' = k)) = true → repD k d ks ds = ds := by
            intro ks
            induction ks with
            | nil => intro ds _ _; cases ds <;> rfl
            | cons b ks ih2 =>
              intro ds hl hn
              cases ds with
              | nil => simp at hl
              | cons e ds =>
                rw [List.any_cons, Bool.or_eq_true, not_or] at hn
                have hb : b ≠ k := fun z => hn.1 (by simp [z])
                simp only [repD, if_neg hb, ih2 ds (by simpa using hl) hn.2]
          have sm := same ks ds (by simpa using hl) hany
          refine ⟨fun k' => ?_, by simp [repD, sm]⟩
          simp only [repD, sm, if_pos hak, lookD]
          by_cases z : a = k'
          · subst z; simp [hak]
          · have : ¬ k' = k := fun w => z (hak.trans w.symm)
            simp [z, this]
  unfold putD
  by_cases hany : (ks.any fun k' => decide (k' = k)) = true
  · rw [if_pos hany]
    obtain ⟨r1, r2⟩ := rep ks ds hl hany
    exact ⟨r1, by rw [r2]; exact hl, by rw [r2]; omega⟩
  · rw [if_neg hany]
    simp only [Bool.not_eq_true] at hany
    exact ⟨app ks ds hl hany, by simp [hl], by simp⟩
def lkR {κ : Type} [DecidableEq κ] (L : List (κ × List D)) (k : κ) : Option (List D) := (L.find? fun x => decide (x.1 = k)).map (·.2)
theorem row_cases {κ : Type} [DecidableEq κ] (L : List (κ × List D)) (k : κ) : (∃ e x, L.findIdx? (fun x => decide (x.1 = k)) = some e ∧ L[e]? = some x ∧ x.1 = k ∧ lkR L k = some x.2 ∧ ∀ ds k', lkR (L.set e (x.1, ds)) k' = if k' = k then some ds else lkR L k') ∨
    (L.findIdx? (fun x => decide (x.1 = k)) = none ∧ lkR L k = none ∧ ∀ ds k', lkR (L ++ [(k, ds)]) k' = if k' = k then some ds else lkR L k') := by
  induction L with
  | nil =>
    right
    refine ⟨rfl, rfl, fun ds k' => ?_⟩
    by_cases z : k = k'
    · subst z; simp [lkR]
    · simp [lkR, z, Ne.symm z]
  | cons a L ih =>
    by_cases z : a.1 = k
    · left
      refine ⟨0, a, by simp [List.findIdx?_cons, z], rfl, z, by simp [lkR, List.find?_cons, z], fun ds k' => ?_⟩
      by_cases w : k' = k
      · simp [lkR, List.find?_cons, z, w]
      · have w2 : ¬ a.1 = k' := fun q => w (q.symm.trans z)
        have w3 : ¬ k = k' := fun q => w q.symm
        simp [lkR, List.find?_cons, z, w, w2, w3]
    · rcases ih with ⟨e, x, h1, h2, h3, h4, h5⟩ | ⟨h1, h2, h3⟩
      · left
        refine ⟨e + 1, x, ?_, by simpa using h2, h3, ?_, fun ds k' => ?_⟩
        · simp [List.findIdx?_cons, z, h1]
        · unfold lkR at h4 ⊢; simp only [List.find?_cons, decide_eq_false z]; exact h4
        · have := h5 ds k'
          unfold lkR at this ⊢
          simp only [List.set_cons_succ, List.find?_cons]
          by_cases w : a.1 = k'
          · have w2 : ¬ k' = k := fun q => z (w.trans q)
            simp [w, w2]
          · simp only [decide_eq_false w]; exact this
      · right
        refine ⟨by simp [List.findIdx?_cons, z, h1], ?_, fun ds k' => ?_⟩
        · unfold lkR at h2 ⊢; simp only [List.find?_cons, decide_eq_false z]; exact h2
        · have := h3 ds k'
          unfold lkR at this ⊢
          simp only [List.cons_append, List.find?_cons]
          by_cases w : a.1 = k'
          · have w2 : ¬ k' = k := fun q => z (w.trans q)
            simp [w, w2]
          · simp only [decide_eq_false w]; exact this
end
end TS

namespace TS
open PySem L2
end TS

namespace TS
open PySem L2
noncomputable section
end
end TS

namespace TS
open PySem L2
noncomputable section
@[simp] theorem ap_fRes (i : Nat) (res : Res D) (δ : Sl) : fRes i res δ = match δ[i]? with
  | some (some (.imm .lam)) => (match res with
    | .ok d _ => .ok (.imm d) δ
    | .exc x _ => .exc x δ
    | .bad => .bad)
  | _ => .bad := rfl
@[simp] theorem ap_fReprD (fa : FD) (δ : Sl) : fReprD fa δ = (fa δ).bind fun d δ1 => match gReprD d with
  | some x => .ok (.str x) δ1
  | none => .bad := rfl
@[simp] theorem ap_fLam (ixs : List Nat) (mt : Res D → Fm) (fb : FE) (δ : Sl) : fLam ixs mt fb δ = outL (mt (thk fb (frzS ixs δ)) none [.lam]) (frzS ixs δ) := rfl
@[simp] theorem ap_fCMethK (n : Nat) (f : Fm) (l : Nat) (fk : FA) (δ : Sl) : fCMethK n f l fk δ = (fk δ).bind fun ds δ1 => if ds.length = l then outE (f none (.cls n :: ds)) δ1 else .bad := rfl
@[simp] theorem ap_hNil (y : XD) : hNil y = none := rfl
@[simp] theorem ap_sRaise (n k : Nat) (fa : FA) (δ : Sl) : sRaise n k fa δ = (fa δ).bindS fun ds δ1 => if ds.length = k then .exc ⟨n, ds.reverse⟩ δ1 else .bad := rfl
@[simp] theorem outE_exc (x : XD) (io : Option OB) (δ : Sl) : outE (.exc x io) δ = .exc x δ := rfl
theorem gNe_self {d : D} {p : PyData} (e : toP d = some p) (h : SeqAt.shaped p = true) : gNe d d = some (.imm (.bl false)) := by
  have h2 : p.canLay0 = true := by unfold SeqAt.shaped at h; exact (Bool.and_eq_true _ _ ▸ h).1
  simp only [gNe, e, h, Bool.and_self, if_true, SeqAt.eqv_refl p h2]
  rfl
end
end TS

namespace TS
open PySem L2
noncomputable section
@[simp] theorem mu_nst (tp : Bool) (ps : List (D ⊕ OB)) : (R.nst tp ps).mu = false := rfl
@[simp] theorem seeS_nil : seeS [] = [] := rfl
@[simp] theorem seeS_cons (x : Option R) (δ : Sl) : seeS (x :: δ) = x.bind seeR :: seeS δ := rfl
@[simp] theorem seeR_imm (d : D) : seeR (.imm d) = some (.imm d) := rfl
@[simp] theorem seeR_l (xs : List D) : seeR (.own (.l xs)) = some (.imm (.lst xs)) := rfl
@[simp] theorem seeR_o (n : Nat) (xs : List D) : seeR (.own (.o n xs)) = some (.imm (.obj n xs)) := rfl
@[simp] theorem seeR_dK (ks : List Key) (xs : List D) : seeR (.own (.dK ks xs)) = none := rfl
@[simp] theorem seeR_dT (ks : List (List Key)) (xs : List D) : seeR (.own (.dT ks xs)) = none := rfl
@[simp] theorem seeR_bl (xs : List D) : seeR (.brw (.l xs)) = some (.imm (.lst xs)) := rfl
@[simp] theorem seeR_nst (tp : Bool) (ps : List (D ⊕ OB)) : seeR (.nst tp ps) = if ps.all pL then some (.imm (nstD tp ps)) else none := rfl
@[simp] theorem pD_l (d : D) : pD (.inl d) = d := rfl
@[simp] theorem pD_r (o : OB) : pD (.inr o) = o.toD := rfl
@[simp] theorem pL_l (d : D) : pL (.inl d) = true := rfl
@[simp] theorem pL_r (o : OB) : pL (.inr o) = !o.dic := rfl
@[simp] theorem dic_l (xs : List D) : (OB.l xs).dic = false := rfl
@[simp] theorem dic_o (n : Nat) (xs : List D) : (OB.o n xs).dic = false := rfl
@[simp] theorem nstD_f (ps : List (D ⊕ OB)) : nstD false ps = .lst (ps.map pD) := rfl
@[simp] theorem nstD_t (ps : List (D ⊕ OB)) : nstD true ps = .tup (ps.map pD) := rfl
@[simp] theorem flatQ_bl (b : Bool) : flatQ (.imm (.bl b)) = true := rfl
@[simp] theorem flatQ_int (b : Int) : flatQ (.imm (.int b)) = true := rfl
@[simp] theorem flatQ_str (b : Str) : flatQ (.imm (.str b)) = true := rfl
@[simp] theorem flatQ_non : flatQ (.imm .non) = true := rfl
@[simp] theorem flatQ_l (xs : List D) : flatQ (.own (.l xs)) = xs.all flatD := rfl
@[simp] theorem ap_fSee (f : FE) (δ : Sl) : fSee f δ = match f (seeS δ) with
  | .ok r _ => if flatQ r then .ok r δ else .bad
  | _ => .bad := rfl
@[simp] theorem ap_tSee (f : FT) (δ : Sl) : tSee f δ = match f (seeS δ) with
  | .ok b _ => .ok b δ
  | _ => .bad := rfl
@[simp] theorem killN_nil : killN [] = [] := rfl
@[simp] theorem killN_cons (x : Option R) (δ : Sl) : killN (x :: δ) = kill1 x :: killN δ := rfl
@[simp] theorem kill1_none : kill1 none = none := rfl
@[simp] theorem kill1_imm (d : D) : kill1 (some (.imm d)) = some (.imm d) := rfl
@[simp] theorem kill1_own (d : OB) : kill1 (some (.own d)) = some (.own d) := rfl
@[simp] theorem kill1_brw (d : OB) : kill1 (some (.brw d)) = some (.brw d) := rfl
@[simp] theorem kill1_nst (tp : Bool) (ps : List (D ⊕ OB)) : kill1 (some (.nst tp ps)) = none := rfl
@[simp] theorem kill_nx (δ : Sl) : SR.kill (.nx δ) = .nx (killN δ) := rfl
@[simp] theorem kill_rt (r : R) (δ : Sl) : SR.kill (.rt r δ) = .rt r (killN δ) := rfl
@[simp] theorem kill_bk (δ : Sl) : SR.kill (.bk δ) = .bk (killN δ) := rfl
@[simp] theorem kill_ct (δ : Sl) : SR.kill (.ct δ) = .ct (killN δ) := rfl
@[simp] theorem kill_exc (x : XD) (δ : Sl) : SR.kill (.exc x δ) = .exc x (killN δ) := rfl
@[simp] theorem ndOf_nil : ndOf [] = [] := rfl
@[simp] theorem ndOf_imm (d : D) (rs : List R) : ndOf (.imm d :: rs) = .inl d :: ndOf rs := rfl
@[simp] theorem ndOf_own (d : OB) (rs : List R) : ndOf (.own d :: rs) = .inr d :: ndOf rs := rfl
@[simp] theorem ap_fNst (f : FX) (δ : Sl) : fNst f δ = (f δ).bind fun rs δ1 => if (ndOf rs).length ≤ 16777216 then .ok (.nst false (ndOf rs)) δ1 else .bad := rfl
@[simp] theorem ap_fNstT (f : FX) (δ : Sl) : fNstT f δ = (f δ).bind fun rs δ1 => if (ndOf rs).length ≤ 16777216 then .ok (.nst true (ndOf rs)) δ1 else .bad := rfl
end
end TS

namespace TS
open PySem L2
noncomputable section
@[simp] theorem ap_fReprT (fa : FD) (δ : Sl) : fReprT fa δ = (fa δ).bind fun d δ1 => match gReprT d with
  | some x => .ok (.str x) δ1
  | none => .bad := rfl
@[simp] theorem ap_itZip3 (f g h : FD) (δ : Sl) : itZip3 f g h δ = (f δ).bind fun d δ => (g δ).bind fun d' δ => (h δ).bind fun d'' δ => match d, d', d'' with
  | .lst m, .lst n, .lst k => .ok (zip3D m n k) δ
  | _, _, _ => .bad := rfl
@[simp] theorem ap_fNstT' (f : FX) (δ : Sl) : fNstT f δ = (f δ).bind fun rs δ1 => if (ndOf rs).length ≤ 16777216 then .ok (.nst true (ndOf rs)) δ1 else .bad := rfl
@[simp] theorem tup2N_nst (i j : Nat) (x y : D ⊕ OB) (δ : Sl) : tTup2N i j (.nst true [x, y]) δ = if i = j then .bad else .nx ((δ.set i (some (nSlot x))).set j (some (nSlot y))) := rfl
@[simp] theorem nSlot_l (d : D) : nSlot (.inl d) = .imm d := rfl
@[simp] theorem nSlot_r (o : OB) : nSlot (.inr o) = .own o := rfl
end
end TS

namespace TS
open PySem L2
noncomputable section
@[simp] theorem ap_fLEnum (f : FD) (δ : Sl) : fLEnum f δ = (f δ).bind fun d δ => match d with
  | .lst ds => .ok (.own (.l (enumD 0 ds))) δ
  | _ => .bad := rfl
@[simp] theorem ap_fLItems (f : FD) (δ : Sl) : fLItems f δ = (f δ).bind fun d δ => match d with
  | .dK ks ds => .ok (.own (.l (zipD (ks.map keyD) ds))) δ
  | .dT ks ds => .ok (.own (.l (zipD (ks.map keysD) ds))) δ
  | _ => .bad := rfl
@[simp] theorem ap_fPopD (x : Nat) (fi : FD) (δ : Sl) : fPopD x fi δ = if dicR δ x then (fi δ).bind fun i δ1 => match δ1[x]? with
  | some (some (.own o)) => (match popOB o i with
    | some (d, o') => .ok d (δ1.set x (some (.own o')))
    | none => .bad)
  | some (some (.brw o)) => (match popOB o i with
    | some (d, o') => .ok d (δ1.set x (some (.brw o')))
    | none => .bad)
  | _ => .bad else .bad := rfl
@[simp] theorem ap_frzN (f : FE) (δ : Sl) : frzN f δ = (f δ).bind fun r δ1 => match r with
  | .nst tp ps => if ps.all pL then .ok (nstD tp ps) δ1 else .bad
  | .imm d => .ok d δ1
  | .own o => .ok o.toD δ1
  | .brw _ => .bad := by
  unfold frzN
  cases f δ with
  | ok r δ1 => cases r <;> rfl
  | exc x δ1 => rfl
  | bad => rfl
end
end TS

set_option maxHeartbeats 0
namespace K21
open PySem L2 TS
structure Ev (K : PySem.W.Frag) (mg : Str → Option Value) (base : Heap) : Prop where
  c : SaysS fa fn K
  X : K.In base
  G : base.Ns mainGlobals mg
def MM (K : PySem.W.Frag) : Gm where
  K := K
  G := fun n => match n with | 0 => some (He.ga K "Plan") | 2 => some (He.ga K "Cycle") | 3 => some (He.ga K "Tracks") | _ => none
  nm := fun n => match n with | 0 => ["own_offsets", "own_sources"] | 2 => ["own_number", "own_remainders", "own_period", "own_sums", "own_drift"] | 3 => ["own_period", "own_cycles", "own_spots", "own_line_cycles", "own_round_cycles", "own_ahead"] | _ => []
noncomputable section
variable {P : Program} {w : World} {K : PySem.W.Frag} {mg : Str → Option Value} {base : Heap}
theorem nm_lt : ∀ n, ((MM K).nm n).length < 1000 := by
  intro n
  show (match n with | 0 => ["own_offsets", "own_sources"] | 2 => ["own_number", "own_remainders", "own_period", "own_sums", "own_drift"] | 3 => ["own_period", "own_cycles", "own_spots", "own_line_cycles", "own_round_cycles", "own_ahead"] | _ => [] : List Str).length < 1000
  split <;> decide
theorem u_len (v : Ev K mg base) : mg "len" = none := He.free_ok v.X v.G (v.c.fact 0 (f := .he (.free "len")))
theorem u_min (v : Ev K mg base) : mg "min" = none := He.free_ok v.X v.G (v.c.fact 1 (f := .he (.free "min")))
theorem u_max (v : Ev K mg base) : mg "max" = none := He.free_ok v.X v.G (v.c.fact 2 (f := .he (.free "max")))
theorem u_range (v : Ev K mg base) : mg "range" = none := He.free_ok v.X v.G (v.c.fact 3 (f := .he (.free "range")))
theorem u_divmod (v : Ev K mg base) : mg "divmod" = none := He.free_ok v.X v.G (v.c.fact 4 (f := .he (.free "divmod")))
theorem u_int (v : Ev K mg base) : mg "int" = none := He.free_ok v.X v.G (v.c.fact 5 (f := .he (.free "int")))
theorem u__law_draw (v : Ev K mg base) : mg "_law_draw" = some (.ref (He.ga K "_law_draw")) := He.glo_ok v.X v.G (v.c.fact 6 (f := .he (.glo "_law_draw")))
theorem u__law_pick (v : Ev K mg base) : mg "_law_pick" = some (.ref (He.ga K "_law_pick")) := He.glo_ok v.X v.G (v.c.fact 7 (f := .he (.glo "_law_pick")))
theorem u__law_great (v : Ev K mg base) : mg "_law_great" = some (.ref (He.ga K "_law_great")) := He.glo_ok v.X v.G (v.c.fact 8 (f := .he (.glo "_law_great")))
theorem u__law_least (v : Ev K mg base) : mg "_law_least" = some (.ref (He.ga K "_law_least")) := He.glo_ok v.X v.G (v.c.fact 9 (f := .he (.glo "_law_least")))
theorem u_list (v : Ev K mg base) : mg "list" = none := He.free_ok v.X v.G (v.c.fact 10 (f := .he (.free "list")))
theorem u__law_mixed (v : Ev K mg base) : mg "_law_mixed" = some (.ref (He.ga K "_law_mixed")) := He.glo_ok v.X v.G (v.c.fact 11 (f := .he (.glo "_law_mixed")))
theorem u__law_rings (v : Ev K mg base) : mg "_law_rings" = some (.ref (He.ga K "_law_rings")) := He.glo_ok v.X v.G (v.c.fact 12 (f := .he (.glo "_law_rings")))
theorem u_sum (v : Ev K mg base) : mg "sum" = none := He.free_ok v.X v.G (v.c.fact 13 (f := .he (.free "sum")))
theorem u__law_turns (v : Ev K mg base) : mg "_law_turns" = some (.ref (He.ga K "_law_turns")) := He.glo_ok v.X v.G (v.c.fact 14 (f := .he (.glo "_law_turns")))
theorem u_zip (v : Ev K mg base) : mg "zip" = none := He.free_ok v.X v.G (v.c.fact 15 (f := .he (.free "zip")))
theorem u__law_table (v : Ev K mg base) : mg "_law_table" = some (.ref (He.ga K "_law_table")) := He.glo_ok v.X v.G (v.c.fact 16 (f := .he (.glo "_law_table")))
theorem u_tuple (v : Ev K mg base) : mg "tuple" = none := He.free_ok v.X v.G (v.c.fact 17 (f := .he (.free "tuple")))
theorem u__law_cycles (v : Ev K mg base) : mg "_law_cycles" = some (.ref (He.ga K "_law_cycles")) := He.glo_ok v.X v.G (v.c.fact 18 (f := .he (.glo "_law_cycles")))
theorem u_enumerate (v : Ev K mg base) : mg "enumerate" = none := He.free_ok v.X v.G (v.c.fact 28 (f := .he (.free "enumerate")))
theorem u_isinstance (v : Ev K mg base) : mg "isinstance" = none := He.free_ok v.X v.G (v.c.fact 29 (f := .he (.free "isinstance")))
theorem u_bool (v : Ev K mg base) : mg "bool" = none := He.free_ok v.X v.G (v.c.fact 30 (f := .he (.free "bool")))
theorem u_is_integer (v : Ev K mg base) : mg "is_integer" = some (.ref (He.ga K "is_integer")) := He.glo_ok v.X v.G (v.c.fact 31 (f := .he (.glo "is_integer")))
theorem u_require_integer (v : Ev K mg base) : mg "require_integer" = some (.ref (He.ga K "require_integer")) := He.glo_ok v.X v.G (v.c.fact 32 (f := .he (.glo "require_integer")))
theorem u_abs (v : Ev K mg base) : mg "abs" = none := He.free_ok v.X v.G (v.c.fact 33 (f := .he (.free "abs")))
theorem u_divisor_of_two (v : Ev K mg base) : mg "divisor_of_two" = some (.ref (He.ga K "divisor_of_two")) := He.glo_ok v.X v.G (v.c.fact 34 (f := .he (.glo "divisor_of_two")))
theorem u_common_divisor (v : Ev K mg base) : mg "common_divisor" = some (.ref (He.ga K "common_divisor")) := He.glo_ok v.X v.G (v.c.fact 35 (f := .he (.glo "common_divisor")))
theorem u_in_lowest_terms (v : Ev K mg base) : mg "in_lowest_terms" = some (.ref (He.ga K "in_lowest_terms")) := He.glo_ok v.X v.G (v.c.fact 36 (f := .he (.glo "in_lowest_terms")))
theorem u_ratio (v : Ev K mg base) : mg "ratio" = some (.ref (He.ga K "ratio")) := He.glo_ok v.X v.G (v.c.fact 37 (f := .he (.glo "ratio")))
theorem u_cycles_in (v : Ev K mg base) : mg "cycles_in" = some (.ref (He.ga K "cycles_in")) := He.glo_ok v.X v.G (v.c.fact 44 (f := .he (.glo "cycles_in")))
theorem u_running_sums (v : Ev K mg base) : mg "running_sums" = some (.ref (He.ga K "running_sums")) := He.glo_ok v.X v.G (v.c.fact 47 (f := .he (.glo "running_sums")))
theorem u_Cycle (v : Ev K mg base) : mg "Cycle" = some (.ref (He.ga K "Cycle")) := He.glo_ok v.X v.G (v.c.fact 49 (f := .he (.glo "Cycle")))
theorem u_least_table (v : Ev K mg base) : mg "least_table" = some (.ref (He.ga K "least_table")) := He.glo_ok v.X v.G (v.c.fact 55 (f := .he (.glo "least_table")))
theorem u_Move (v : Ev K mg base) : mg "Move" = some (.ref (He.ga K "Move")) := He.glo_ok v.X v.G (v.c.fact 58 (f := .he (.glo "Move")))
theorem u_checked_table (v : Ev K mg base) : mg "checked_table" = some (.ref (He.ga K "checked_table")) := He.glo_ok v.X v.G (v.c.fact 59 (f := .he (.glo "checked_table")))
theorem u_Plan (v : Ev K mg base) : mg "Plan" = some (.ref (He.ga K "Plan")) := He.glo_ok v.X v.G (v.c.fact 62 (f := .he (.glo "Plan")))
theorem u_sources_of (v : Ev K mg base) : mg "sources_of" = some (.ref (He.ga K "sources_of")) := He.glo_ok v.X v.G (v.c.fact 64 (f := .he (.glo "sources_of")))
theorem u_Tracks (v : Ev K mg base) : mg "Tracks" = some (.ref (He.ga K "Tracks")) := He.glo_ok v.X v.G (v.c.fact 66 (f := .he (.glo "Tracks")))
theorem u__law_place (v : Ev K mg base) : mg "_law_place" = some (.ref (He.ga K "_law_place")) := He.glo_ok v.X v.G (v.c.fact 67 (f := .he (.glo "_law_place")))
theorem u__law_address (v : Ev K mg base) : mg "_law_address" = some (.ref (He.ga K "_law_address")) := He.glo_ok v.X v.G (v.c.fact 68 (f := .he (.glo "_law_address")))
theorem u_all (v : Ev K mg base) : mg "all" = none := He.free_ok v.X v.G (v.c.fact 69 (f := .he (.free "all")))
theorem u_repr (v : Ev K mg base) : mg "repr" = none := He.free_ok v.X v.G (v.c.fact 79 (f := .he (.free "repr")))
theorem u_str (v : Ev K mg base) : mg "str" = none := He.free_ok v.X v.G (v.c.fact 80 (f := .he (.free "str")))
theorem u__law_below (v : Ev K mg base) : mg "_law_below" = some (.ref (He.ga K "_law_below")) := He.glo_ok v.X v.G (v.c.fact 81 (f := .he (.glo "_law_below")))
theorem u__law_drawn_address (v : Ev K mg base) : mg "_law_drawn_address" = some (.ref (He.ga K "_law_drawn_address")) := He.glo_ok v.X v.G (v.c.fact 82 (f := .he (.glo "_law_drawn_address")))
theorem u__law_place_at (v : Ev K mg base) : mg "_law_place_at" = some (.ref (He.ga K "_law_place_at")) := He.glo_ok v.X v.G (v.c.fact 83 (f := .he (.glo "_law_place_at")))
theorem u__law_right (v : Ev K mg base) : mg "_law_right" = some (.ref (He.ga K "_law_right")) := He.glo_ok v.X v.G (v.c.fact 84 (f := .he (.glo "_law_right")))
theorem u__law_pot (v : Ev K mg base) : mg "_law_pot" = some (.ref (He.ga K "_law_pot")) := He.glo_ok v.X v.G (v.c.fact 85 (f := .he (.glo "_law_pot")))
abbrev g__law_draw_1a_1 : FS := (sAsg (fCal gDivmod (aCons (frz (fBinV gIx 0 (kD (.int 0)))) (aCons (vI 1) aNil))) (tTup 2 (tsCons (tSub 0 (kD (.int 0))) (tsCons (tName 2) tsNil))))
abbrev g__law_draw_1a_2 : FS := (sRet (vR 2))
abbrev g__law_draw_1 : FS := (sIf (fTst (fBin gGt (frz (fBinV gIx 0 (kD (.int 0)))) (kD (.int 0)))) (sSeq g__law_draw_1a_1 g__law_draw_1a_2) sNil)
abbrev g__law_draw_2 : FS := (sAsg (toE (frz (fBin gMod (frz (fCal gInt (aOne (frz (fBin gAdd (frz (fBin gMul (frz (fBinV gIx 0 (kD (.int 1)))) (kD (.int 48271)))) (kD (.int 20011))))))) (kD (.int 2147483629))))) (tSub 0 (kD (.int 1))))
abbrev g__law_draw_3 : FS := (sRet (fBin gMod (frz (fCal gInt (aOne (frz (fBin gFdiv (frz (fBin gMod (frz (fCal gInt (aOne (frz (fBin gMul (frz (fBinV gIx 0 (kD (.int 1)))) (frz (fBinV gIx 0 (kD (.int 1))))))))) (kD (.int 2147483563)))) (kD (.int 13))))))) (vP 1)))
def g__law_draw : FS := (sSeq g__law_draw_1 (sSeq g__law_draw_2 g__law_draw_3))
theorem S__law_draw : FnScope ["_law_pot_here", "_law_many", "_law_digit"] ["_law_pot_here", "_law_many"] (defScope (top 41)) := ⟨rfl, rfl, rfl, by decide +kernel, rfl, by decide +kernel, by decide +kernel⟩
theorem kp__law_draw (v : Ev K mg base) : PySem.W.keepIn K (.ref (He.ga K "_law_draw")) = true := (v.c.def_ 0 (d := d__law_draw) rfl).elim fun _ F => F.kp
theorem b__law_draw (v : Ev K mg base) : BodyOk (MM K) P w K mg base 0 "_law_draw" (top 41) (He.ga K "_law_draw") ["_law_pot_here", "_law_many", "_law_digit"] g__law_draw :=
  fun cdv A outer s H E hr tk hp => (dss_cons (ds_if (t_gt (DE.frz (x_ixV hr (pv 0) (DI.pk di_int))) (DI.pk di_int)) (dss_cons (ds_asg (b_divmod (by rfl) (u_divmod v) (DA.b (da_cons (DE.frz (x_ixV hr (pv 0) (DI.pk di_int))) (da_cons (di_var (pv 1)) da_nil)))) (dg_tup (by rfl) (dgs_cons (dg_sub (pv 0) di_int (hu_of hr)) (dgs_cons (dg_name (pg_name S__law_draw.nd (by rfl) (by first | exact Or.inl rfl | exact Or.inr rfl))) dgs_nil))) (tgt_tup (tgs_cons tgt_sub (tgs_cons (tgt_name 2) tgs_nil))))
    (dss_one (ds_ret (de_var (pv 2))))) dss_nil)
    (dss_cons (ds_asg (DI.toE (DE.frz (x_mod (DE.frz (b_int (by rfl) (u_int v) (db_one (DE.pk (x_add (DE.frz (x_mul (DE.frz (x_ixV hr (pv 0) (DI.pk di_int))) (DI.pk di_int))) (DI.pk di_int)))))) (DI.pk di_int)))) (dg_sub (pv 0) di_int (hu_of hr)) tgt_sub)
    (dss_one (ds_ret (x_mod (DE.frz (b_int (by rfl) (u_int v) (db_one (DE.pk (x_fdiv (DE.frz (x_mod (DE.frz (b_int (by rfl) (u_int v) (db_one (DE.pk (x_mul (DE.frz (x_ixV hr (pv 0) (DI.pk di_int))) (DE.pk (x_ixV hr (pv 0) (DI.pk di_int)))))))) (DI.pk di_int))) (DI.pk di_int)))))) (dp_var (pv 1)))))))
def m__law_draw : Fm := mir 3 2 g__law_draw
theorem o__law_draw (v : Ev K mg base) : DefOk (MM K) P w K mg base 1 "_law_draw" "_law_draw" (top 41) [] (He.ga K "_law_draw") ["_law_pot_here", "_law_many"] m__law_draw := by
  obtain ⟨fd, F⟩ := v.c.def_ 0 (d := d__law_draw) rfl
  exact ⟨fd, F, funD_mir (M := MM K) F S__law_draw (by decide) (fun cdv A outer s H E hr tk hp => b__law_draw v cdv A outer s H E hr tk hp)⟩
theorem f__law_draw (v : Ev K mg base) : TS.FnR P w K mg base (L2.CX P w) 1 (He.ga K "_law_draw") (spD (MM K) m__law_draw) := by
  obtain ⟨fd, F, O⟩ := o__law_draw (P := P) (w := w) v
  exact fnR_raw (M := MM K) O (F.bindsN (ps := ["_law_pot_here", "_law_many"]) fun _ _ _ _ _ _ us hl => match us, hl with | [_, _], _ => rfl)
abbrev g__law_pick_1 : FS := (sRet (fBin gIx (vI 1) (frz (fOwnIo m__law_draw 0 (aCons (frz (fCal gLen (aOne (vP 1)))) aNil)))))
def g__law_pick : FS := g__law_pick_1
theorem S__law_pick : FnScope ["_law_pot_here", "_law_some"] ["_law_pot_here", "_law_some"] (defScope (top 42)) := ⟨rfl, rfl, rfl, by decide +kernel, rfl, by decide +kernel, by decide +kernel⟩
theorem kp__law_pick (v : Ev K mg base) : PySem.W.keepIn K (.ref (He.ga K "_law_pick")) = true := (v.c.def_ 1 (d := d__law_pick) rfl).elim fun _ F => F.kp
theorem b__law_pick (v : Ev K mg base) : BodyOk (MM K) P w K mg base 1 "_law_pick" (top 42) (He.ga K "_law_pick") ["_law_pot_here", "_law_some"] g__law_pick :=
  fun cdv A outer s H E hr tk hp => (dss_one (ds_ret (x_ix hr (di_var (pv 1)) (DE.pk (d_ownIo (fun h => pe_own ((f__law_draw v).mono (by decide)) hr tk (by rfl) (u__law_draw v) (kp__law_draw v) h) (pv 0) (da_cons (DE.frz (b_len (by rfl) (u_len v) (db_one (dp_var (pv 1))))) da_nil))))))
def m__law_pick : Fm := mir 2 2 g__law_pick
theorem o__law_pick (v : Ev K mg base) : DefOk (MM K) P w K mg base 2 "_law_pick" "_law_pick" (top 42) [] (He.ga K "_law_pick") ["_law_pot_here", "_law_some"] m__law_pick := by
  obtain ⟨fd, F⟩ := v.c.def_ 1 (d := d__law_pick) rfl
  exact ⟨fd, F, funD_mir (M := MM K) F S__law_pick (by decide) (fun cdv A outer s H E hr tk hp => b__law_pick v cdv A outer s H E hr tk hp)⟩
theorem f__law_pick (v : Ev K mg base) : TS.FnR P w K mg base (L2.CX P w) 2 (He.ga K "_law_pick") (spD (MM K) m__law_pick) := by
  obtain ⟨fd, F, O⟩ := o__law_pick (P := P) (w := w) v
  exact fnR_raw (M := MM K) O (F.bindsN (ps := ["_law_pot_here", "_law_some"]) fun _ _ _ _ _ _ us hl => match us, hl with | [_, _], _ => rfl)
abbrev g__law_great_1 : FS := (sAsg (toE (kD (.int 0))) (tName 2))
abbrev g__law_great_2_1 : FS := (sAsg (fBin gAdd (frz (fBin gMul (vI 2) (frz (fBin gPow (kD (.int 10)) (kD (.int 7)))))) (frz (fOwnIo m__law_draw 0 (aCons (frz (fBin gPow (kD (.int 10)) (kD (.int 7)))) aNil)))) (tName 2))
abbrev g__law_great_2B : FS := g__law_great_2_1
abbrev g__law_great_2 : FS := (sFor (itRg1 (vI 1)) (tName 3) g__law_great_2B)
abbrev g__law_great_3 : FS := (sRet (fBin gMul (vI 2) (frz (fOwnIo m__law_pick 0 (aCons (frz (fLst (aCons (kD (.int 1)) (aCons (fUnI (fun i => -i) (kD (.int 1))) aNil)))) aNil)))))
def g__law_great : FS := (sSeq g__law_great_1 (sSeq g__law_great_2 g__law_great_3))
theorem S__law_great : FnScope ["_law_pot_here", "_law_groups", "_law_number", "_law_turn"] ["_law_pot_here", "_law_groups"] (defScope (top 44)) := ⟨rfl, rfl, rfl, by decide +kernel, rfl, by decide +kernel, by decide +kernel⟩
theorem kp__law_great (v : Ev K mg base) : PySem.W.keepIn K (.ref (He.ga K "_law_great")) = true := (v.c.def_ 2 (d := d__law_great) rfl).elim fun _ F => F.kp
theorem b__law_great (v : Ev K mg base) : BodyOk (MM K) P w K mg base 2 "_law_great" (top 44) (He.ga K "_law_great") ["_law_pot_here", "_law_groups", "_law_number", "_law_turn"] g__law_great :=
  fun cdv A outer s H E hr tk hp => (dss_cons (ds_set (i := 2) S__law_great.nd (by rfl) (by first | exact Or.inl rfl | exact Or.inr rfl) (DI.toE di_int))
    (dss_cons (ds_for hp (by rfl) (dit_rg1 (by rfl) (u_range v) (di_var (pv 1))) (dg_name (pg_name S__law_great.nd (by rfl) (by first | exact Or.inl rfl | exact Or.inr rfl))) (tgt_name 3) (dss_one (ds_set (i := 2) S__law_great.nd (by rfl) (by first | exact Or.inl rfl | exact Or.inr rfl) (x_add (DE.frz (x_mul (di_var (pv 2)) (DE.pk (x_pow di_int (DI.pk di_int))))) (DE.pk (d_ownIo (fun h => pe_own ((f__law_draw v).mono (by decide)) hr tk (by rfl) (u__law_draw v) (kp__law_draw v) h) (pv 0) (da_cons (DE.frz (x_pow di_int (DI.pk di_int))) da_nil)))))))
    (dss_one (ds_ret (x_mul (di_var (pv 2)) (DE.pk (d_ownIo (fun h => pe_own ((f__law_pick v).mono (by decide)) hr tk (by rfl) (u__law_pick v) (kp__law_pick v) h) (pv 0) (da_cons (DE.frz (de_lst (da_cons di_int (da_cons (di_neg di_int) da_nil)))) da_nil))))))))
def m__law_great : Fm := mir 4 2 g__law_great
theorem o__law_great (v : Ev K mg base) : DefOk (MM K) P w K mg base 3 "_law_great" "_law_great" (top 44) [] (He.ga K "_law_great") ["_law_pot_here", "_law_groups"] m__law_great := by
  obtain ⟨fd, F⟩ := v.c.def_ 2 (d := d__law_great) rfl
  exact ⟨fd, F, funD_mir (M := MM K) F S__law_great (by decide) (fun cdv A outer s H E hr tk hp => b__law_great v cdv A outer s H E hr tk hp)⟩
theorem f__law_great (v : Ev K mg base) : TS.FnR P w K mg base (L2.CX P w) 3 (He.ga K "_law_great") (spD (MM K) m__law_great) := by
  obtain ⟨fd, F, O⟩ := o__law_great (P := P) (w := w) v
  exact fnR_raw (M := MM K) O (F.bindsN (ps := ["_law_pot_here", "_law_groups"]) fun _ _ _ _ _ _ us hl => match us, hl with | [_, _], _ => rfl)
abbrev g__law_least_1_1a_1 : FS := (sRet (fSl (vI 0) oNone (oSome (vI 1))))
abbrev g__law_least_1_1 : FS := (sIf (fTst (fBin gEq (frz (fBin gMul (frz (fSl (vI 0) oNone (oSome (vI 1)))) (frz (fBin gFdiv (frz (fCal gLen (aOne (vP 0)))) (vP 1))))) (vP 0))) g__law_least_1_1a_1 sNil)
abbrev g__law_least_1B : FS := g__law_least_1_1
abbrev g__law_least_1 : FS := (sFor (itRg2 (kD (.int 1)) (frz (fCal gLen (aOne (vP 0))))) (tName 1) g__law_least_1B)
abbrev g__law_least_2 : FS := (sRet (vR 0))
def g__law_least : FS := (sSeq g__law_least_1 g__law_least_2)
theorem S__law_least : FnScope ["_law_table_here", "_law_many"] ["_law_table_here"] (defScope (top 48)) := ⟨rfl, rfl, rfl, by decide +kernel, rfl, by decide +kernel, by decide +kernel⟩
theorem kp__law_least (v : Ev K mg base) : PySem.W.keepIn K (.ref (He.ga K "_law_least")) = true := (v.c.def_ 3 (d := d__law_least) rfl).elim fun _ F => F.kp
theorem b__law_least (v : Ev K mg base) : BodyOk (MM K) P w K mg base 0 "_law_least" (top 48) (He.ga K "_law_least") ["_law_table_here", "_law_many"] g__law_least :=
  fun cdv A outer s H E hr tk hp => (dss_cons (ds_for hp (by rfl) (dit_rg2 (by rfl) (u_range v) di_int (DE.frz (b_len (by rfl) (u_len v) (db_one (dp_var (pv 0)))))) (dg_name (pg_name S__law_least.nd (by rfl) (by first | exact Or.inl rfl | exact Or.inr rfl))) (tgt_name 1) (dss_one (ds_if (t_eq hr (DE.frz (x_mul (DE.frz (de_sl (di_var (pv 0)) do_none (do_some (di_var (pv 1))))) (DE.pk (x_fdiv (DE.frz (b_len (by rfl) (u_len v) (db_one (dp_var (pv 0))))) (dp_var (pv 1)))))) (dp_var (pv 0))) (dss_one (ds_ret (de_sl (di_var (pv 0)) do_none (do_some (di_var (pv 1)))))) dss_nil)))
    (dss_one (ds_ret (de_var (pv 0)))))
def m__law_least : Fm := mir 2 1 g__law_least
theorem o__law_least (v : Ev K mg base) : DefOk (MM K) P w K mg base 1 "_law_least" "_law_least" (top 48) [] (He.ga K "_law_least") ["_law_table_here"] m__law_least := by
  obtain ⟨fd, F⟩ := v.c.def_ 3 (d := d__law_least) rfl
  exact ⟨fd, F, funD_mir (M := MM K) F S__law_least (by decide) (fun cdv A outer s H E hr tk hp => b__law_least v cdv A outer s H E hr tk hp)⟩
theorem f__law_least (v : Ev K mg base) : TS.FnR P w K mg base (L2.CX P w) 1 (He.ga K "_law_least") (spD (MM K) m__law_least) := by
  obtain ⟨fd, F, O⟩ := o__law_least (P := P) (w := w) v
  exact fnR_raw (M := MM K) O (F.bindsN (ps := ["_law_table_here"]) fun _ _ _ _ _ _ us hl => match us, hl with | [_], _ => rfl)
abbrev g__law_mixed_1 : FS := (sPar 2 3 (fCal gList (aOne (vP 1))) (fLst aNil))
abbrev g__law_mixed_2_1 : FS := (sExpr (toE (fMut 3 mAppend (aCons (fMut 2 mPop (aCons (frz (fOwnIo m__law_draw 0 (aCons (frz (fCal gLen (aOne (vP 2)))) aNil))) aNil)) aNil))))
abbrev g__law_mixed_2B : FS := g__law_mixed_2_1
abbrev g__law_mixed_2 : FS := (sWhile (muL 2) (fTst (fBinV gNe 2 (frz (fLst aNil)))) g__law_mixed_2B)
abbrev g__law_mixed_3 : FS := (sRet (vR 3))
def g__law_mixed : FS := (sSeq g__law_mixed_1 (sSeq g__law_mixed_2 g__law_mixed_3))
theorem S__law_mixed : FnScope ["_law_pot_here", "_law_some", "_law_rest", "_law_found"] ["_law_pot_here", "_law_some"] (defScope (top 43)) := ⟨rfl, rfl, rfl, by decide +kernel, rfl, by decide +kernel, by decide +kernel⟩
theorem kp__law_mixed (v : Ev K mg base) : PySem.W.keepIn K (.ref (He.ga K "_law_mixed")) = true := (v.c.def_ 4 (d := d__law_mixed) rfl).elim fun _ F => F.kp
theorem b__law_mixed (v : Ev K mg base) : BodyOk (MM K) P w K mg base 1 "_law_mixed" (top 43) (He.ga K "_law_mixed") ["_law_pot_here", "_law_some", "_law_rest", "_law_found"] g__law_mixed :=
  fun cdv A outer s H E hr tk hp => (dss_cons (ds_par (i := 2) (j := 3) (by rfl) S__law_mixed.nd (by rfl) (by rfl) (by decide) (by rfl) (by rfl) (b_list (by rfl) (u_list v) (db_one (dp_var (pv 1)))) (de_lst da_nil) (by rfl))
    (dss_cons (ds_while (muL 2) hp (t_neV hr (pv 2) (DE.pk (de_lst da_nil))) (dss_one (ds_expr (DI.toE (m_append (pv 3) (da_cons (m_pop (pv 2) (da_cons (DE.frz (d_ownIo (fun h => pe_own ((f__law_draw v).mono (by decide)) hr tk (by rfl) (u__law_draw v) (kp__law_draw v) h) (pv 0) (da_cons (DE.frz (b_len (by rfl) (u_len v) (db_one (dp_var (pv 2))))) da_nil))) da_nil)) da_nil))))))
    (dss_one (ds_ret (de_var (pv 3))))))
def m__law_mixed : Fm := mir 4 2 g__law_mixed
theorem o__law_mixed (v : Ev K mg base) : DefOk (MM K) P w K mg base 2 "_law_mixed" "_law_mixed" (top 43) [] (He.ga K "_law_mixed") ["_law_pot_here", "_law_some"] m__law_mixed := by
  obtain ⟨fd, F⟩ := v.c.def_ 4 (d := d__law_mixed) rfl
  exact ⟨fd, F, funD_mir (M := MM K) F S__law_mixed (by decide) (fun cdv A outer s H E hr tk hp => b__law_mixed v cdv A outer s H E hr tk hp)⟩
theorem f__law_mixed (v : Ev K mg base) : TS.FnR P w K mg base (L2.CX P w) 2 (He.ga K "_law_mixed") (spD (MM K) m__law_mixed) := by
  obtain ⟨fd, F, O⟩ := o__law_mixed (P := P) (w := w) v
  exact fnR_raw (M := MM K) O (F.bindsN (ps := ["_law_pot_here", "_law_some"]) fun _ _ _ _ _ _ us hl => match us, hl with | [_, _], _ => rfl)
abbrev g__law_rings_1 : FS := (sPar 2 3 (fLst aNil) (fLst aNil))
abbrev g__law_rings_2_1a_1 : FS := (sPar 4 5 (fLst aNil) (toE (vI 1)))
abbrev g__law_rings_2_1a_2_1 : FS := (sExpr (toE (fMut 4 mAppend (aCons (vI 5) aNil))))
abbrev g__law_rings_2_1a_2_2 : FS := (sAsg (fBin gIx (vI 0) (vP 5)) (tName 5))
abbrev g__law_rings_2_1a_2B : FS := (sSeq g__law_rings_2_1a_2_1 g__law_rings_2_1a_2_2)
abbrev g__law_rings_2_1a_2 : FS := (sWhile (muN 0) (fTst (fBin gNotIn (vI 5) (vP 4))) g__law_rings_2_1a_2B)
abbrev g__law_rings_2_1a_3 : FS := (sAsg (fBin gAdd (vI 3) (vP 4)) (tName 3))
abbrev g__law_rings_2_1a_4 : FS := (sExpr (toE (fMut 2 mAppend (aCons (vI 4) aNil))))
abbrev g__law_rings_2_1 : FS := (sIf (fTst (fBin gNotIn (vI 1) (vP 3))) (sSeq g__law_rings_2_1a_1 (sSeq g__law_rings_2_1a_2 (sSeq g__law_rings_2_1a_3 g__law_rings_2_1a_4))) sNil)
abbrev g__law_rings_2B : FS := g__law_rings_2_1
abbrev g__law_rings_2 : FS := (sFor (itRg1 (frz (fCal gLen (aOne (vP 0))))) (tName 1) g__law_rings_2B)
abbrev g__law_rings_3 : FS := (sRet (vR 2))
def g__law_rings : FS := (sSeq g__law_rings_1 (sSeq g__law_rings_2 g__law_rings_3))
theorem S__law_rings : FnScope ["_law_goals", "_law_first", "_law_found", "_law_known", "_law_ring", "_law_here"] ["_law_goals"] (defScope (top 45)) := ⟨rfl, rfl, rfl, by decide +kernel, rfl, by decide +kernel, by decide +kernel⟩
theorem kp__law_rings (v : Ev K mg base) : PySem.W.keepIn K (.ref (He.ga K "_law_rings")) = true := (v.c.def_ 5 (d := d__law_rings) rfl).elim fun _ F => F.kp
theorem b__law_rings (v : Ev K mg base) : BodyOk (MM K) P w K mg base 0 "_law_rings" (top 45) (He.ga K "_law_rings") ["_law_goals", "_law_first", "_law_found", "_law_known", "_law_ring", "_law_here"] g__law_rings :=
  fun cdv A outer s H E hr tk hp => (dss_cons (ds_par (i := 2) (j := 3) (by rfl) S__law_rings.nd (by rfl) (by rfl) (by decide) (by rfl) (by rfl) (de_lst da_nil) (de_lst da_nil) (by rfl))
    (dss_cons (ds_for hp (by rfl) (dit_rg1 (by rfl) (u_range v) (DE.frz (b_len (by rfl) (u_len v) (db_one (dp_var (pv 0)))))) (dg_name (pg_name S__law_rings.nd (by rfl) (by first | exact Or.inl rfl | exact Or.inr rfl))) (tgt_name 1) (dss_one (ds_if (t_notIn hr (di_var (pv 1)) (dp_var (pv 3))) (dss_cons (ds_par (i := 4) (j := 5) (by rfl) S__law_rings.nd (by rfl) (by rfl) (by decide) (by rfl) (by rfl) (de_lst da_nil) (DI.toE (di_var (pv 1))) (by rfl))
    (dss_cons (ds_while (muN 0) hp (t_notIn hr (di_var (pv 5)) (dp_var (pv 4))) (dss_cons (ds_expr (DI.toE (m_append (pv 4) (da_cons (di_var (pv 5)) da_nil))))
    (dss_one (ds_set (i := 5) S__law_rings.nd (by rfl) (by first | exact Or.inl rfl | exact Or.inr rfl) (x_ix hr (di_var (pv 0)) (dp_var (pv 5)))))))
    (dss_cons (ds_set (i := 3) S__law_rings.nd (by rfl) (by first | exact Or.inl rfl | exact Or.inr rfl) (x_add (di_var (pv 3)) (dp_var (pv 4))))
    (dss_one (ds_expr (DI.toE (m_append (pv 2) (da_cons (di_var (pv 4)) da_nil)))))))) dss_nil)))
    (dss_one (ds_ret (de_var (pv 2))))))
def m__law_rings : Fm := mir 6 1 g__law_rings
theorem o__law_rings (v : Ev K mg base) : DefOk (MM K) P w K mg base 1 "_law_rings" "_law_rings" (top 45) [] (He.ga K "_law_rings") ["_law_goals"] m__law_rings := by
  obtain ⟨fd, F⟩ := v.c.def_ 5 (d := d__law_rings) rfl
  exact ⟨fd, F, funD_mir (M := MM K) F S__law_rings (by decide) (fun cdv A outer s H E hr tk hp => b__law_rings v cdv A outer s H E hr tk hp)⟩
theorem f__law_rings (v : Ev K mg base) : TS.FnR P w K mg base (L2.CX P w) 1 (He.ga K "_law_rings") (spD (MM K) m__law_rings) := by
  obtain ⟨fd, F, O⟩ := o__law_rings (P := P) (w := w) v
  exact fnR_raw (M := MM K) O (F.bindsN (ps := ["_law_goals"]) fun _ _ _ _ _ _ us hl => match us, hl with | [_], _ => rfl)
abbrev g__law_turns_1 : FS := (sAsg (fLc (stName 6) [6] (itSeq (vI 1)) tTrue (frz (fBin gSub (frz (fOwnIo m__law_draw 0 (aCons (kD (.int 5)) aNil))) (kD (.int 2))))) (tName 4))
abbrev g__law_turns_2a_1 : FS := (sRet (vR 4))
abbrev g__law_turns_2 : FS := (sIf (fTst (fBin gEq (vI 2) (kD (.int 0)))) g__law_turns_2a_1 sNil)
abbrev g__law_turns_3 : FS := (sAsg (fBin gIx (frz (fLst (aCons (kD (.int 0)) (aCons (frz (fBin gMul (frz (fBin gMul (vI 3) (frz (fCal gLen (aOne (vP 1)))))) (frz (fOwnIo m__law_pick 0 (aCons (frz (fLst (aCons (kD (.int 1)) (aCons (kD (.int 1)) (aCons (fUnI (fun i => -i) (kD (.int 1))) (aCons (kD (.int 0)) aNil)))))) aNil))))) (aCons (frz (fBin gMul (vI 3) (frz (fOwnIo m__law_pick 0 (aCons (frz (fLst (aCons (kD (.int 1)) (aCons (fUnI (fun i => -i) (kD (.int 1))) (aCons (kD (.int 2)) (aCons (kD (.int 0)) aNil)))))) aNil))))) aNil))))) (frz (fBin gSub (vI 2) (kD (.int 1))))) (tName 5))
abbrev g__law_turns_4 : FS := (sRet (fBin gAdd (frz (fSl (vI 4) (oSome (kD (.int 1))) oNone)) (frz (fLst (aCons (frz (fBin gSub (vI 5) (frz (fCal gSum (aOne (frz (fSl (vI 4) (oSome (kD (.int 1))) oNone))))))) aNil)))))
def g__law_turns : FS := (sSeq g__law_turns_1 (sSeq g__law_turns_2 (sSeq g__law_turns_3 g__law_turns_4)))
theorem S__law_turns : FnScope ["_law_pot_here", "_law_ring", "_law_way", "_law_factor", "_law_turns_here", "_law_drift", "_law_place_here"] ["_law_pot_here", "_law_ring", "_law_way", "_law_factor"] (defScope (top 46)) := ⟨rfl, rfl, rfl, by decide +kernel, rfl, by decide +kernel, by decide +kernel⟩
theorem kp__law_turns (v : Ev K mg base) : PySem.W.keepIn K (.ref (He.ga K "_law_turns")) = true := (v.c.def_ 6 (d := d__law_turns) rfl).elim fun _ F => F.kp
theorem b__law_turns (v : Ev K mg base) : BodyOk (MM K) P w K mg base 2 "_law_turns" (top 46) (He.ga K "_law_turns") ["_law_pot_here", "_law_ring", "_law_way", "_law_factor", "_law_turns_here", "_law_drift", "_law_place_here"] g__law_turns :=
  fun cdv A outer s H E hr tk hp => (dss_cons (ds_setLc (i := 4) (own := [("_law_place_here", 6)]) (by rfl) (by rfl) S__law_turns.nd (by rfl) (by rfl) (by rfl) (dit_list (di_var (pv 1))) (blkOk_by (by kernel_rfl)) (st_name 6) (fun _ _ _ _ _ => pg_name S__law_turns.nd (by rfl) (by first | exact Or.inl rfl | exact Or.inr rfl)) (fun _ _ _ _ _ => pts_no) (fun _ _ _ _ _ => (DE.frz (x_sub (DE.frz (d_ownIo (fun h => pe_own ((f__law_draw v).mono (by decide)) hr TS.takes0 (by rfl) (u__law_draw v) (kp__law_draw v) h) (pv 0) (da_cons di_int da_nil))) (DI.pk di_int)))))
    (dss_cons (ds_if (t_eq hr (di_var (pv 2)) (DI.pk di_int)) (dss_one (ds_ret (de_var (pv 4)))) dss_nil)
    (dss_cons (ds_set (i := 5) S__law_turns.nd (by rfl) (by first | exact Or.inl rfl | exact Or.inr rfl) (x_ix hr (DE.frz (de_lst (da_cons di_int (da_cons (DE.frz (x_mul (DE.frz (x_mul (di_var (pv 3)) (DE.pk (b_len (by rfl) (u_len v) (db_one (dp_var (pv 1))))))) (DE.pk (d_ownIo (fun h => pe_own ((f__law_pick v).mono (by decide)) hr tk (by rfl) (u__law_pick v) (kp__law_pick v) h) (pv 0) (da_cons (DE.frz (de_lst (da_cons di_int (da_cons di_int (da_cons (di_neg di_int) (da_cons di_int da_nil)))))) da_nil))))) (da_cons (DE.frz (x_mul (di_var (pv 3)) (DE.pk (d_ownIo (fun h => pe_own ((f__law_pick v).mono (by decide)) hr tk (by rfl) (u__law_pick v) (kp__law_pick v) h) (pv 0) (da_cons (DE.frz (de_lst (da_cons di_int (da_cons (di_neg di_int) (da_cons di_int (da_cons di_int da_nil)))))) da_nil))))) da_nil))))) (DE.pk (x_sub (di_var (pv 2)) (DI.pk di_int)))))
    (dss_one (ds_ret (x_add (DE.frz (de_sl (di_var (pv 4)) (do_some di_int) do_none)) (DE.pk (de_lst (da_cons (DE.frz (x_sub (di_var (pv 5)) (DE.pk (b_sum (by rfl) (by rfl) (u_sum v) (db_one (DE.pk (de_sl (di_var (pv 4)) (do_some di_int) do_none))))))) da_nil)))))))))
def m__law_turns : Fm := mir 7 4 g__law_turns
theorem o__law_turns (v : Ev K mg base) : DefOk (MM K) P w K mg base 3 "_law_turns" "_law_turns" (top 46) [] (He.ga K "_law_turns") ["_law_pot_here", "_law_ring", "_law_way", "_law_factor"] m__law_turns := by
  obtain ⟨fd, F⟩ := v.c.def_ 6 (d := d__law_turns) rfl
  exact ⟨fd, F, funD_mir (M := MM K) F S__law_turns (by decide) (fun cdv A outer s H E hr tk hp => b__law_turns v cdv A outer s H E hr tk hp)⟩
theorem f__law_turns (v : Ev K mg base) : TS.FnR P w K mg base (L2.CX P w) 3 (He.ga K "_law_turns") (spD (MM K) m__law_turns) := by
  obtain ⟨fd, F, O⟩ := o__law_turns (P := P) (w := w) v
  exact fnR_raw (M := MM K) O (F.bindsN (ps := ["_law_pot_here", "_law_ring", "_law_way", "_law_factor"]) fun _ _ _ _ _ _ us hl => match us, hl with | [_, _, _, _], _ => rfl)
abbrev g__law_table_1 : FS := (sPar3E 4 5 6 (fxCons (fOwnIo m__law_mixed 0 (aCons (frz (fLRg1 (vI 1))) aNil)) (fxCons (fOwnIo m__law_draw 0 (aCons (kD (.int 4)) aNil)) (fxCons (fBin gMul (frz (fLst (aCons (kD (.int 0)) aNil))) (vP 1)) fxNil))))
abbrev g__law_table_2_1_1 : FS := (sAsg (toE (frz (fBin gAdd (frz (fBin gSub (frz (fBin gIx (vI 4) (vP 7))) (vP 7))) (frz (fBin gMul (vI 1) (vP 8)))))) (tSub 6 (vI 7)))
abbrev g__law_table_2_1B : FS := g__law_table_2_1_1
abbrev g__law_table_2_1 : FS := (sFor (itZip (vI 3) (frz (fOwnIo m__law_turns 0 (aCons (vI 3) (aCons (vI 5) (aCons (vI 2) aNil)))))) (tTup 2 (tsCons (tName 7) (tsCons (tName 8) tsNil))) g__law_table_2_1B)
abbrev g__law_table_2B : FS := g__law_table_2_1
abbrev g__law_table_2 : FS := (sFor (itSeq (frz (fOwn m__law_rings (aCons (vI 4) aNil)))) (tName 3) g__law_table_2B)
abbrev g__law_table_3 : FS := (sRet (vR 6))
def g__law_table : FS := (sSeq g__law_table_1 (sSeq g__law_table_2 g__law_table_3))
theorem S__law_table : FnScope ["_law_pot_here", "_law_many", "_law_factor", "_law_ring", "_law_goals", "_law_way", "_law_found", "_law_place_here", "_law_turn"] ["_law_pot_here", "_law_many", "_law_factor"] (defScope (top 47)) := ⟨rfl, rfl, rfl, by decide +kernel, rfl, by decide +kernel, by decide +kernel⟩
theorem kp__law_table (v : Ev K mg base) : PySem.W.keepIn K (.ref (He.ga K "_law_table")) = true := (v.c.def_ 7 (d := d__law_table) rfl).elim fun _ F => F.kp
theorem b__law_table (v : Ev K mg base) : BodyOk (MM K) P w K mg base 3 "_law_table" (top 47) (He.ga K "_law_table") ["_law_pot_here", "_law_many", "_law_factor", "_law_ring", "_law_goals", "_law_way", "_law_found", "_law_place_here", "_law_turn"] g__law_table :=
  fun cdv A outer s H E hr tk hp => (dss_cons (ds_par3E (i := 4) (j := 5) (l := 6) (by rfl) S__law_table.nd (by rfl) (by rfl) (by rfl) (by decide) (by decide) (by decide) (by rfl) (by rfl) (by rfl) (dx_cons (d_ownIo (fun h => pe_own ((f__law_mixed v).mono (by decide)) hr tk (by rfl) (u__law_mixed v) (kp__law_mixed v) h) (pv 0) (da_cons (DE.frz (de_lrg1 (by rfl) (by rfl) (u_list v) (by rfl) (u_range v) (di_var (pv 1)))) da_nil)) (dx_cons (d_ownIo (fun h => pe_own ((f__law_draw v).mono (by decide)) hr tk (by rfl) (u__law_draw v) (kp__law_draw v) h) (pv 0) (da_cons di_int da_nil)) (dx_cons (x_mul (DE.frz (de_lst (da_cons di_int da_nil))) (dp_var (pv 1))) dx_nil))) (by rfl))
    (dss_cons (ds_for hp (by rfl) (dit_list (DE.frz (d_own (fun h => pe_own ((f__law_rings v).mono (by decide)) hr tk (by rfl) (u__law_rings v) (kp__law_rings v) h) (da_cons (di_var (pv 4)) da_nil)))) (dg_name (pg_name S__law_table.nd (by rfl) (by first | exact Or.inl rfl | exact Or.inr rfl))) (tgt_name 3) (dss_one (ds_for hp (by rfl) (dit_zip (by rfl) (u_zip v) (di_var (pv 3)) (DE.frz (d_ownIo (fun h => pe_own ((f__law_turns v).mono (by decide)) hr tk (by rfl) (u__law_turns v) (kp__law_turns v) h) (pv 0) (da_cons (di_var (pv 3)) (da_cons (di_var (pv 5)) (da_cons (di_var (pv 2)) da_nil)))))) (dg_tup (by rfl) (dgs_cons (dg_name (pg_name S__law_table.nd (by rfl) (by first | exact Or.inl rfl | exact Or.inr rfl))) (dgs_cons (dg_name (pg_name S__law_table.nd (by rfl) (by first | exact Or.inl rfl | exact Or.inr rfl))) dgs_nil))) (tgt_tup (tgs_cons (tgt_name 7) (tgs_cons (tgt_name 8) tgs_nil))) (dss_one (ds_asg (DI.toE (DE.frz (x_add (DE.frz (x_sub (DE.frz (x_ix hr (di_var (pv 4)) (dp_var (pv 7)))) (dp_var (pv 7)))) (DE.pk (x_mul (di_var (pv 1)) (dp_var (pv 8))))))) (dg_sub (pv 6) (di_var (pv 7)) (hu_of hr)) tgt_sub)))))
    (dss_one (ds_ret (de_var (pv 6))))))
def m__law_table : Fm := mir 9 3 g__law_table
theorem o__law_table (v : Ev K mg base) : DefOk (MM K) P w K mg base 4 "_law_table" "_law_table" (top 47) [] (He.ga K "_law_table") ["_law_pot_here", "_law_many", "_law_factor"] m__law_table := by
  obtain ⟨fd, F⟩ := v.c.def_ 7 (d := d__law_table) rfl
  exact ⟨fd, F, funD_mir (M := MM K) F S__law_table (by decide) (fun cdv A outer s H E hr tk hp => b__law_table v cdv A outer s H E hr tk hp)⟩
theorem f__law_table (v : Ev K mg base) : TS.FnR P w K mg base (L2.CX P w) 4 (He.ga K "_law_table") (spD (MM K) m__law_table) := by
  obtain ⟨fd, F, O⟩ := o__law_table (P := P) (w := w) v
  exact fnR_raw (M := MM K) O (F.bindsN (ps := ["_law_pot_here", "_law_many", "_law_factor"]) fun _ _ _ _ _ _ us hl => match us, hl with | [_, _, _], _ => rfl)
abbrev g__law_cycles_1 : FS := (sPar 2 3 (fLst aNil) (fLst aNil))
abbrev g__law_cycles_2_1a_1 : FS := (sPar4E 4 5 6 7 (fxCons (fLst aNil) (fxCons (fLst aNil) (fxCons (toE (vI 1)) (fxCons (toE (kD (.int 0))) fxNil)))))
abbrev g__law_cycles_2_1a_2_1 : FS := (sExpr (toE (fMut 4 mAppend (aCons (vI 6) aNil))))
abbrev g__law_cycles_2_1a_2_2 : FS := (sExpr (toE (fMut 5 mAppend (aCons (vI 7) aNil))))
abbrev g__law_cycles_2_1a_2_3 : FS := (sAsg (fBin gAdd (vI 7) (frz (fBin gIx (vI 0) (vP 6)))) (tName 7))
abbrev g__law_cycles_2_1a_2_4 : FS := (sAsg (fBin gMod (frz (fCal gInt (aOne (frz (fBin gAdd (vI 6) (frz (fBin gIx (vI 0) (vP 6)))))))) (frz (fCal gLen (aOne (vP 0))))) (tName 6))
abbrev g__law_cycles_2_1a_2B : FS := (sSeq g__law_cycles_2_1a_2_1 (sSeq g__law_cycles_2_1a_2_2 (sSeq g__law_cycles_2_1a_2_3 g__law_cycles_2_1a_2_4)))
abbrev g__law_cycles_2_1a_2 : FS := (sWhile (muN 0) (fTst (fBin gNotIn (vI 6) (vP 4))) g__law_cycles_2_1a_2B)
abbrev g__law_cycles_2_1a_3 : FS := (sAsg (fBin gAdd (vI 3) (vP 4)) (tName 3))
abbrev g__law_cycles_2_1a_4 : FS := (sExpr (toE (fMut 2 mAppend (aCons (fTup (aCons (fTupK (vI 4)) (aCons (vI 5) (aCons (frz (fBin gFdiv (vI 7) (frz (fCal gLen (aOne (vP 0)))))) aNil)))) aNil))))
abbrev g__law_cycles_2_1 : FS := (sIf (fTst (fBin gNotIn (vI 1) (vP 3))) (sSeq g__law_cycles_2_1a_1 (sSeq g__law_cycles_2_1a_2 (sSeq g__law_cycles_2_1a_3 g__law_cycles_2_1a_4))) sNil)
abbrev g__law_cycles_2B : FS := g__law_cycles_2_1
abbrev g__law_cycles_2 : FS := (sFor (itRg1 (frz (fCal gLen (aOne (vP 0))))) (tName 1) g__law_cycles_2B)
abbrev g__law_cycles_3 : FS := (sRet (vR 2))
def g__law_cycles : FS := (sSeq g__law_cycles_1 (sSeq g__law_cycles_2 g__law_cycles_3))
theorem S__law_cycles : FnScope ["_law_table_here", "_law_first", "_law_found", "_law_known", "_law_row", "_law_sums", "_law_here", "_law_total"] ["_law_table_here"] (defScope (top 49)) := ⟨rfl, rfl, rfl, by decide +kernel, rfl, by decide +kernel, by decide +kernel⟩
theorem kp__law_cycles (v : Ev K mg base) : PySem.W.keepIn K (.ref (He.ga K "_law_cycles")) = true := (v.c.def_ 8 (d := d__law_cycles) rfl).elim fun _ F => F.kp
theorem b__law_cycles (v : Ev K mg base) : BodyOk (MM K) P w K mg base 0 "_law_cycles" (top 49) (He.ga K "_law_cycles") ["_law_table_here", "_law_first", "_law_found", "_law_known", "_law_row", "_law_sums", "_law_here", "_law_total"] g__law_cycles :=
  fun cdv A outer s H E hr tk hp => (dss_cons (ds_par (i := 2) (j := 3) (by rfl) S__law_cycles.nd (by rfl) (by rfl) (by decide) (by rfl) (by rfl) (de_lst da_nil) (de_lst da_nil) (by rfl))
    (dss_cons (ds_for hp (by rfl) (dit_rg1 (by rfl) (u_range v) (DE.frz (b_len (by rfl) (u_len v) (db_one (dp_var (pv 0)))))) (dg_name (pg_name S__law_cycles.nd (by rfl) (by first | exact Or.inl rfl | exact Or.inr rfl))) (tgt_name 1) (dss_one (ds_if (t_notIn hr (di_var (pv 1)) (dp_var (pv 3))) (dss_cons (ds_par4T (pg_tup (by rfl) (pgs_cons (pg_name S__law_cycles.nd (by rfl) (by first | exact Or.inl rfl | exact Or.inr rfl)) (pgs_cons (pg_name S__law_cycles.nd (by rfl) (by first | exact Or.inl rfl | exact Or.inr rfl)) (pgs_cons (pg_name S__law_cycles.nd (by rfl) (by first | exact Or.inl rfl | exact Or.inr rfl)) (pgs_cons (pg_name S__law_cycles.nd (by rfl) (by first | exact Or.inl rfl | exact Or.inr rfl)) pgs_nil))))) (dx_cons (de_lst da_nil) (dx_cons (de_lst da_nil) (dx_cons (DI.toE (di_var (pv 1))) (dx_cons (DI.toE di_int) dx_nil)))))
    (dss_cons (ds_while (muN 0) hp (t_notIn hr (di_var (pv 6)) (dp_var (pv 4))) (dss_cons (ds_expr (DI.toE (m_append (pv 4) (da_cons (di_var (pv 6)) da_nil))))
    (dss_cons (ds_expr (DI.toE (m_append (pv 5) (da_cons (di_var (pv 7)) da_nil))))
    (dss_cons (ds_set (i := 7) S__law_cycles.nd (by rfl) (by first | exact Or.inl rfl | exact Or.inr rfl) (x_add (di_var (pv 7)) (DE.pk (x_ix hr (di_var (pv 0)) (dp_var (pv 6))))))
    (dss_one (ds_set (i := 6) S__law_cycles.nd (by rfl) (by first | exact Or.inl rfl | exact Or.inr rfl) (x_mod (DE.frz (b_int (by rfl) (u_int v) (db_one (DE.pk (x_add (di_var (pv 6)) (DE.pk (x_ix hr (di_var (pv 0)) (dp_var (pv 6))))))))) (DE.pk (b_len (by rfl) (u_len v) (db_one (dp_var (pv 0))))))))))))
    (dss_cons (ds_set (i := 3) S__law_cycles.nd (by rfl) (by first | exact Or.inl rfl | exact Or.inr rfl) (x_add (di_var (pv 3)) (dp_var (pv 4))))
    (dss_one (ds_expr (DI.toE (m_append (pv 2) (da_cons (di_tup (da_cons (di_tupK (by rfl) (u_tuple v) (di_var (pv 4))) (da_cons (di_var (pv 5)) (da_cons (DE.frz (x_fdiv (di_var (pv 7)) (DE.pk (b_len (by rfl) (u_len v) (db_one (dp_var (pv 0))))))) da_nil)))) da_nil)))))))) dss_nil)))
    (dss_one (ds_ret (de_var (pv 2))))))
def m__law_cycles : Fm := mir 8 1 g__law_cycles
theorem o__law_cycles (v : Ev K mg base) : DefOk (MM K) P w K mg base 1 "_law_cycles" "_law_cycles" (top 49) [] (He.ga K "_law_cycles") ["_law_table_here"] m__law_cycles := by
  obtain ⟨fd, F⟩ := v.c.def_ 8 (d := d__law_cycles) rfl
  exact ⟨fd, F, funD_mir (M := MM K) F S__law_cycles (by decide) (fun cdv A outer s H E hr tk hp => b__law_cycles v cdv A outer s H E hr tk hp)⟩
theorem f__law_cycles (v : Ev K mg base) : TS.FnR P w K mg base (L2.CX P w) 1 (He.ga K "_law_cycles") (spD (MM K) m__law_cycles) := by
  obtain ⟨fd, F, O⟩ := o__law_cycles (P := P) (w := w) v
  exact fnR_raw (M := MM K) O (F.bindsN (ps := ["_law_table_here"]) fun _ _ _ _ _ _ us hl => match us, hl with | [_], _ => rfl)
def ix_own_spots : Nat → Option Nat := fun n => match n with
  | 3 => some 2
  | _ => none
theorem F_own_spots (v : Ev K mg base) : FldT (MM K) "own_spots" ix_own_spots := by
  intro n j h
  unfold ix_own_spots at h
  split at h
  · cases h
    exact ⟨fun C e => by cases e; exact ⟨He.cls_ok (v.c.fact 19 (f := .he (.cls "Tracks"))), He.noat_ok (v.c.fact 20 (f := .he (.noat "Tracks" "own_spots")))⟩, rfl, show ("own_spots" : Str) ∉ (["own_period", "own_cycles", "own_spots", "own_line_cycles", "own_round_cycles", "own_ahead"] : List Str).take 2 from by decide +kernel⟩
  · cases h
def ix_own_line_cycles : Nat → Option Nat := fun n => match n with
  | 3 => some 3
  | _ => none
theorem F_own_line_cycles (v : Ev K mg base) : FldT (MM K) "own_line_cycles" ix_own_line_cycles := by
  intro n j h
  unfold ix_own_line_cycles at h
  split at h
  · cases h
    exact ⟨fun C e => by cases e; exact ⟨He.cls_ok (v.c.fact 19 (f := .he (.cls "Tracks"))), He.noat_ok (v.c.fact 21 (f := .he (.noat "Tracks" "own_line_cycles")))⟩, rfl, show ("own_line_cycles" : Str) ∉ (["own_period", "own_cycles", "own_spots", "own_line_cycles", "own_round_cycles", "own_ahead"] : List Str).take 3 from by decide +kernel⟩
  · cases h
def ix_own_round_cycles : Nat → Option Nat := fun n => match n with
  | 3 => some 4
  | _ => none
theorem F_own_round_cycles (v : Ev K mg base) : FldT (MM K) "own_round_cycles" ix_own_round_cycles := by
  intro n j h
  unfold ix_own_round_cycles at h
  split at h
  · cases h
    exact ⟨fun C e => by cases e; exact ⟨He.cls_ok (v.c.fact 19 (f := .he (.cls "Tracks"))), He.noat_ok (v.c.fact 22 (f := .he (.noat "Tracks" "own_round_cycles")))⟩, rfl, show ("own_round_cycles" : Str) ∉ (["own_period", "own_cycles", "own_spots", "own_line_cycles", "own_round_cycles", "own_ahead"] : List Str).take 4 from by decide +kernel⟩
  · cases h
def ix_own_ahead : Nat → Option Nat := fun n => match n with
  | 3 => some 5
  | _ => none
theorem F_own_ahead (v : Ev K mg base) : FldT (MM K) "own_ahead" ix_own_ahead := by
  intro n j h
  unfold ix_own_ahead at h
  split at h
  · cases h
    exact ⟨fun C e => by cases e; exact ⟨He.cls_ok (v.c.fact 19 (f := .he (.cls "Tracks"))), He.noat_ok (v.c.fact 23 (f := .he (.noat "Tracks" "own_ahead")))⟩, rfl, show ("own_ahead" : Str) ∉ (["own_period", "own_cycles", "own_spots", "own_line_cycles", "own_round_cycles", "own_ahead"] : List Str).take 5 from by decide +kernel⟩
  · cases h
def ix_own_drift : Nat → Option Nat := fun n => match n with
  | 2 => some 4
  | _ => none
theorem F_own_drift (v : Ev K mg base) : FldT (MM K) "own_drift" ix_own_drift := by
  intro n j h
  unfold ix_own_drift at h
  split at h
  · cases h
    exact ⟨fun C e => by cases e; exact ⟨He.cls_ok (v.c.fact 24 (f := .he (.cls "Cycle"))), He.noat_ok (v.c.fact 25 (f := .he (.noat "Cycle" "own_drift")))⟩, rfl, show ("own_drift" : Str) ∉ (["own_number", "own_remainders", "own_period", "own_sums", "own_drift"] : List Str).take 4 from by decide +kernel⟩
  · cases h
def ix_own_remainders : Nat → Option Nat := fun n => match n with
  | 2 => some 1
  | _ => none
theorem F_own_remainders (v : Ev K mg base) : FldT (MM K) "own_remainders" ix_own_remainders := by
  intro n j h
  unfold ix_own_remainders at h
  split at h
  · cases h
    exact ⟨fun C e => by cases e; exact ⟨He.cls_ok (v.c.fact 24 (f := .he (.cls "Cycle"))), He.noat_ok (v.c.fact 26 (f := .he (.noat "Cycle" "own_remainders")))⟩, rfl, show ("own_remainders" : Str) ∉ (["own_number", "own_remainders", "own_period", "own_sums", "own_drift"] : List Str).take 1 from by decide +kernel⟩
  · cases h
abbrev g_Cycle_told_1 : FS := (sRet (toE (fTup (aCons (fFld ix_own_remainders (vP 0)) (aCons (fFld ix_own_drift (vP 0)) aNil)))))
def g_Cycle_told : FS := g_Cycle_told_1
theorem S_Cycle_told : FnScope ["self"] ["self"] (defScope (inClass (top 37) 1)) := ⟨rfl, rfl, rfl, by decide +kernel, rfl, by decide +kernel, by decide +kernel⟩
theorem b_Cycle_told (v : Ev K mg base) : BodyOk (MM K) P w K mg base 0 "Cycle.told" (inClass (top 37) 1) (He.ma K (He.ga K "Cycle") "told") ["self"] g_Cycle_told :=
  fun cdv A outer s H E hr tk hp => (dss_one (ds_ret (DI.toE (di_tup (da_cons (di_fld (F_own_remainders v) (dp_var (pv 0))) (da_cons (di_fld (F_own_drift v) (dp_var (pv 0))) da_nil))))))
def m_Cycle_told : Fm := mir 1 1 g_Cycle_told
theorem o_Cycle_told (v : Ev K mg base) : DefOk (MM K) P w K mg base 1 "told" "Cycle.told" (inClass (top 37) 1) [] (He.ma K (He.ga K "Cycle") "told") ["self"] m_Cycle_told := by
  obtain ⟨fd, F⟩ := v.c.def_ 9 (d := d_Cycle_told) rfl
  exact ⟨fd, F, funD_mir (M := MM K) F S_Cycle_told (by decide) (fun cdv A outer s H E hr tk hp => b_Cycle_told v cdv A outer s H E hr tk hp)⟩
theorem f_Cycle_told (v : Ev K mg base) : TS.FnR P w K mg base (L2.CX P w) 1 (He.ma K (He.ga K "Cycle") "told") (spD (MM K) m_Cycle_told) := by
  obtain ⟨fd, F, O⟩ := o_Cycle_told (P := P) (w := w) v
  exact fnR_raw (M := MM K) O (F.bindsN (ps := ["self"]) fun _ _ _ _ _ _ us hl => match us, hl with | [_], _ => rfl)
def tab_told : Nat → Option Fm := fun n => match n with
  | 2 => some m_Cycle_told
  | _ => none
theorem T_told (v : Ev K mg base) : ∀ n f, tab_told n = some f → ∃ C g, (MM K).G n = some C ∧ Cls K C ∧ Meth K C "told" g ∧ TS.FnR P w K mg base (L2.CX P w) 1 g (spD (MM K) f) := by
  intro n f h
  unfold tab_told at h
  split at h
  · cases h
    exact ⟨_, _, rfl, He.cls_ok (v.c.fact 24 (f := .he (.cls "Cycle"))), He.meth_ok (v.c.fact 27 (f := .he (.meth "Cycle" "told"))), (f_Cycle_told v).mono (by decide)⟩
  · cases h
theorem n_told : ∀ n f, tab_told n = some f → (("told" : Str) ∉ (MM K).nm n) := by
  intro n f h
  unfold tab_told at h
  split at h
  · show ("told" : Str) ∉ (["own_number", "own_remainders", "own_period", "own_sums", "own_drift"] : List Str)
    decide +kernel
  · cases h
def is_bool : Tg → Option Bool := tabTy ["bool"] fun _ => none
theorem is_bool_ok : IsT (MM K) ((["bool"] : List String).map Value.type) is_bool := isT_own0
def is_int : Tg → Option Bool := tabTy ["int"] fun _ => none
theorem is_int_ok : IsT (MM K) ((["int"] : List String).map Value.type) is_int := isT_own0
abbrev g_is_integer_1 : FS := (sRet (fAndV (fIsi is_int (vP 0)) (toE (fNotV (fIsi is_bool (vP 0))))))
def g_is_integer : FS := g_is_integer_1
theorem S_is_integer : FnScope ["value"] ["value"] (defScope (top 12)) := ⟨rfl, rfl, rfl, by decide +kernel, rfl, by decide +kernel, by decide +kernel⟩
theorem kp_is_integer (v : Ev K mg base) : PySem.W.keepIn K (.ref (He.ga K "is_integer")) = true := (v.c.def_ 10 (d := d_is_integer) rfl).elim fun _ F => F.kp
theorem b_is_integer (v : Ev K mg base) : BodyOk (MM K) P w K mg base 0 "is_integer" (top 12) (He.ga K "is_integer") ["value"] g_is_integer :=
  fun cdv A outer s H E hr tk hp => (dss_one (ds_ret (de_and (b_isi (by rfl) (u_isinstance v) (dp_var (pv 0)) (k_ty bt_int (by rfl) (u_int v)) (ClsV.ty "int") is_int_ok) (de_one (DI.toE (di_not (b_isi (by rfl) (u_isinstance v) (dp_var (pv 0)) (k_ty bt_bool (by rfl) (u_bool v)) (ClsV.ty "bool") is_bool_ok)))))))
def m_is_integer : Fm := mir 1 1 g_is_integer
theorem o_is_integer (v : Ev K mg base) : DefOk (MM K) P w K mg base 1 "is_integer" "is_integer" (top 12) [] (He.ga K "is_integer") ["value"] m_is_integer := by
  obtain ⟨fd, F⟩ := v.c.def_ 10 (d := d_is_integer) rfl
  exact ⟨fd, F, funD_mir (M := MM K) F S_is_integer (by decide) (fun cdv A outer s H E hr tk hp => b_is_integer v cdv A outer s H E hr tk hp)⟩
theorem f_is_integer (v : Ev K mg base) : TS.FnR P w K mg base (L2.CX P w) 1 (He.ga K "is_integer") (spD (MM K) m_is_integer) := by
  obtain ⟨fd, F, O⟩ := o_is_integer (P := P) (w := w) v
  exact fnR_raw (M := MM K) O (F.bindsN (ps := ["value"]) fun _ _ _ _ _ _ us hl => match us, hl with | [_], _ => rfl)
abbrev g_require_integer_1a_1 : FS := sNev
abbrev g_require_integer_1 : FS := (sIf (fOr (fNot (fTst (fOwn m_is_integer (aCons (vI 0) aNil)))) (fAnd (fTst (fBin gNotN (vI 1) (kD .non))) (fTst (fBin gLt (vI 0) (vP 1))))) g_require_integer_1a_1 sNil)
def g_require_integer : FS := g_require_integer_1
theorem S_require_integer : FnScope ["value", "least"] ["value", "least"] (defScope (top 13)) := ⟨rfl, rfl, rfl, by decide +kernel, rfl, by decide +kernel, by decide +kernel⟩
theorem kp_require_integer (v : Ev K mg base) : PySem.W.keepIn K (.ref (He.ga K "require_integer")) = true := (v.c.def_ 11 (d := d_require_integer) rfl).elim fun _ F => F.kp
theorem b_require_integer (v : Ev K mg base) : BodyOk (MM K) P w K mg base 1 "require_integer" (top 13) (He.ga K "require_integer") ["value", "least"] g_require_integer :=
  fun cdv A outer s H E hr tk hp => (dss_one (ds_if (DW.pt (dw_or (dt_not (dt_val (d_own (fun h => pe_own ((f_is_integer v).mono (by decide)) hr tk (by rfl) (u_is_integer v) (kp_is_integer v) h) (da_cons (di_var (pv 0)) da_nil)))) (dw_or1 (DW.pt (dw_and (t_notN (di_var (pv 1)) (DI.pk di_non)) (dw_and1 (t_lt (di_var (pv 0)) (dp_var (pv 1))))))))) (dss_one ds_never) dss_nil))
def m_require_integer : Fm := mir 2 2 g_require_integer
theorem o_require_integer (v : Ev K mg base) : DefOk (MM K) P w K mg base 2 "require_integer" "require_integer" (top 13) [V.non] (He.ga K "require_integer") ["value", "least"] m_require_integer := by
  obtain ⟨fd, F⟩ := v.c.def_ 11 (d := d_require_integer) rfl
  exact ⟨fd, F, funD_mir (M := MM K) F S_require_integer (by decide) (fun cdv A outer s H E hr tk hp => b_require_integer v cdv A outer s H E hr tk hp)⟩
def m_require_integer_d1 : Fm := fmDfl m_require_integer [.non]
theorem f_require_integer_d1 (v : Ev K mg base) : TS.FnR P w K mg base (L2.CX P w) 2 (He.ga K "require_integer") (spD (MM K) m_require_integer_d1) := by
  obtain ⟨fd, F, O⟩ := o_require_integer (P := P) (w := w) v
  obtain ⟨ds, hv, hb⟩ := FunD.binds1 (ps := ["value", "least"]) F 1 0 (by intro z; cases z) rfl (fun T kV doc pm an cdv ct us its h1 h2 => match us, its, h1, h2 with | [_], [_], _, _ => ⟨_, rfl, rfl⟩)
  exact fnR_dfl (M := MM K) (fun F => (reps_cons rep_non' reps_nil)) (O.raw hb hv)
abbrev g_divisor_of_two_1 : FS := (sPar 2 3 (fCal gAbs (aOne (vP 0))) (fCal gAbs (aOne (vP 1))))
abbrev g_divisor_of_two_2_1 : FS := (sPar 2 3 (toE (vI 3)) (fBin gMod (vI 2) (vP 3)))
abbrev g_divisor_of_two_2B : FS := g_divisor_of_two_2_1
abbrev g_divisor_of_two_2 : FS := (sWhile (muI 3) (fTst (fBin gNe (vI 3) (kD (.int 0)))) g_divisor_of_two_2B)
abbrev g_divisor_of_two_3 : FS := (sRet (vR 2))
def g_divisor_of_two : FS := (sSeq g_divisor_of_two_1 (sSeq g_divisor_of_two_2 g_divisor_of_two_3))
theorem S_divisor_of_two : FnScope ["one", "other", "greater", "less"] ["one", "other"] (defScope (top 14)) := ⟨rfl, rfl, rfl, by decide +kernel, rfl, by decide +kernel, by decide +kernel⟩
theorem kp_divisor_of_two (v : Ev K mg base) : PySem.W.keepIn K (.ref (He.ga K "divisor_of_two")) = true := (v.c.def_ 12 (d := d_divisor_of_two) rfl).elim fun _ F => F.kp
theorem b_divisor_of_two (v : Ev K mg base) : BodyOk (MM K) P w K mg base 0 "divisor_of_two" (top 14) (He.ga K "divisor_of_two") ["one", "other", "greater", "less"] g_divisor_of_two :=
  fun cdv A outer s H E hr tk hp => (dss_cons (ds_par (i := 2) (j := 3) (by rfl) S_divisor_of_two.nd (by rfl) (by rfl) (by decide) (by rfl) (by rfl) (b_abs (by rfl) (u_abs v) (db_one (dp_var (pv 0)))) (b_abs (by rfl) (u_abs v) (db_one (dp_var (pv 1)))) (by rfl))
    (dss_cons (ds_while (muI 3) hp (t_ne hr (di_var (pv 3)) (DI.pk di_int)) (dss_one (ds_par (i := 2) (j := 3) (by rfl) S_divisor_of_two.nd (by rfl) (by rfl) (by decide) (by rfl) (by rfl) (DI.toE (di_var (pv 3))) (x_mod (di_var (pv 2)) (dp_var (pv 3))) (by rfl))))
    (dss_one (ds_ret (de_var (pv 2))))))
def m_divisor_of_two : Fm := mir 4 2 g_divisor_of_two
theorem o_divisor_of_two (v : Ev K mg base) : DefOk (MM K) P w K mg base 1 "divisor_of_two" "divisor_of_two" (top 14) [] (He.ga K "divisor_of_two") ["one", "other"] m_divisor_of_two := by
  obtain ⟨fd, F⟩ := v.c.def_ 12 (d := d_divisor_of_two) rfl
  exact ⟨fd, F, funD_mir (M := MM K) F S_divisor_of_two (by decide) (fun cdv A outer s H E hr tk hp => b_divisor_of_two v cdv A outer s H E hr tk hp)⟩
theorem f_divisor_of_two (v : Ev K mg base) : TS.FnR P w K mg base (L2.CX P w) 1 (He.ga K "divisor_of_two") (spD (MM K) m_divisor_of_two) := by
  obtain ⟨fd, F, O⟩ := o_divisor_of_two (P := P) (w := w) v
  exact fnR_raw (M := MM K) O (F.bindsN (ps := ["one", "other"]) fun _ _ _ _ _ _ us hl => match us, hl with | [_, _], _ => rfl)
abbrev g_common_divisor_1_1 : FS := (sExpr (fOwn m_require_integer_d1 (aCons (vI 1) aNil)))
abbrev g_common_divisor_1B : FS := g_common_divisor_1_1
abbrev g_common_divisor_1 : FS := (sFor (itTup (vI 0)) (tName 1) g_common_divisor_1B)
abbrev g_common_divisor_2 : FS := (sAsg (toE (kD (.int 0))) (tName 2))
abbrev g_common_divisor_3_1 : FS := (sAsg (fOwn m_divisor_of_two (aCons (vI 2) (aCons (vI 1) aNil))) (tName 2))
abbrev g_common_divisor_3B : FS := g_common_divisor_3_1
abbrev g_common_divisor_3 : FS := (sFor (itTup (vI 0)) (tName 1) g_common_divisor_3B)
abbrev g_common_divisor_4 : FS := (sRet (vR 2))
def g_common_divisor : FS := (sSeq g_common_divisor_1 (sSeq g_common_divisor_2 (sSeq g_common_divisor_3 g_common_divisor_4)))
theorem S_common_divisor : FnScope ["numbers", "number", "found"] ["numbers"] (defScope (top 15)) := ⟨rfl, rfl, rfl, by decide +kernel, rfl, by decide +kernel, by decide +kernel⟩
theorem kp_common_divisor (v : Ev K mg base) : PySem.W.keepIn K (.ref (He.ga K "common_divisor")) = true := (v.c.def_ 13 (d := d_common_divisor) rfl).elim fun _ F => F.kp
theorem b_common_divisor (v : Ev K mg base) : BodyOk (MM K) P w K mg base 2 "common_divisor" (top 15) (He.ga K "common_divisor") ["numbers", "number", "found"] g_common_divisor :=
  fun cdv A outer s H E hr tk hp => (dss_cons (ds_for hp (by rfl) (dit_tup (di_var (pv 0))) (dg_name (pg_name S_common_divisor.nd (by rfl) (by first | exact Or.inl rfl | exact Or.inr rfl))) (tgt_name 1) (dss_one (ds_expr (d_own (fun h => pe_own ((f_require_integer_d1 v).mono (by decide)) hr tk (by rfl) (u_require_integer v) (kp_require_integer v) h) (da_cons (di_var (pv 1)) da_nil)))))
    (dss_cons (ds_set (i := 2) S_common_divisor.nd (by rfl) (by first | exact Or.inl rfl | exact Or.inr rfl) (DI.toE di_int))
    (dss_cons (ds_for hp (by rfl) (dit_tup (di_var (pv 0))) (dg_name (pg_name S_common_divisor.nd (by rfl) (by first | exact Or.inl rfl | exact Or.inr rfl))) (tgt_name 1) (dss_one (ds_set (i := 2) S_common_divisor.nd (by rfl) (by first | exact Or.inl rfl | exact Or.inr rfl) (d_own (fun h => pe_own ((f_divisor_of_two v).mono (by decide)) hr tk (by rfl) (u_divisor_of_two v) (kp_divisor_of_two v) h) (da_cons (di_var (pv 2)) (da_cons (di_var (pv 1)) da_nil))))))
    (dss_one (ds_ret (de_var (pv 2)))))))
def m_common_divisor : Fm := fmStar 0 (mir 3 1 g_common_divisor)
theorem f_common_divisor (v : Ev K mg base) : TS.FnR P w K mg base (L2.CX P w) 3 (He.ga K "common_divisor") (spD (MM K) m_common_divisor) := by
  obtain ⟨fd, F⟩ := v.c.def_ 13 (d := d_common_divisor) rfl
  exact funD_star (M := MM K) (ps := []) (pv := "numbers") F S_common_divisor (by decide) (fun _ _ _ _ _ _ us rest h => match us, rest, h with | [], [], _ => rfl | [], _ :: _, _ => rfl) (fun cdv A outer s H E hr tk hp => b_common_divisor v cdv A outer s H E hr tk hp)
abbrev g_in_lowest_terms_1 : FS := (sAsg (fOwn m_common_divisor (aCons (vI 0) (aCons (vI 1) aNil))) (tName 2))
abbrev g_in_lowest_terms_2a_1 : FS := (sAsg (toE (fUnI (fun i => -i) (vI 2))) (tName 2))
abbrev g_in_lowest_terms_2 : FS := (sIf (fTst (fBin gLt (vI 1) (kD (.int 0)))) g_in_lowest_terms_2a_1 sNil)
abbrev g_in_lowest_terms_3 : FS := (sRet (toE (fTup (aCons (frz (fBin gFdiv (vI 0) (vP 2))) (aCons (frz (fBin gFdiv (vI 1) (vP 2))) aNil)))))
def g_in_lowest_terms : FS := (sSeq g_in_lowest_terms_1 (sSeq g_in_lowest_terms_2 g_in_lowest_terms_3))
theorem S_in_lowest_terms : FnScope ["top", "bottom", "divisor"] ["top", "bottom"] (defScope (top 32)) := ⟨rfl, rfl, rfl, by decide +kernel, rfl, by decide +kernel, by decide +kernel⟩
theorem kp_in_lowest_terms (v : Ev K mg base) : PySem.W.keepIn K (.ref (He.ga K "in_lowest_terms")) = true := (v.c.def_ 14 (d := d_in_lowest_terms) rfl).elim fun _ F => F.kp
theorem b_in_lowest_terms (v : Ev K mg base) : BodyOk (MM K) P w K mg base 3 "in_lowest_terms" (top 32) (He.ga K "in_lowest_terms") ["top", "bottom", "divisor"] g_in_lowest_terms :=
  fun cdv A outer s H E hr tk hp => (dss_cons (ds_set (i := 2) S_in_lowest_terms.nd (by rfl) (by first | exact Or.inl rfl | exact Or.inr rfl) (d_own (fun h => pe_own ((f_common_divisor v).mono (by decide)) hr tk (by rfl) (u_common_divisor v) (kp_common_divisor v) h) (da_cons (di_var (pv 0)) (da_cons (di_var (pv 1)) da_nil))))
    (dss_cons (ds_if (t_lt (di_var (pv 1)) (DI.pk di_int)) (dss_one (ds_set (i := 2) S_in_lowest_terms.nd (by rfl) (by first | exact Or.inl rfl | exact Or.inr rfl) (DI.toE (di_neg (di_var (pv 2)))))) dss_nil)
    (dss_one (ds_ret (DI.toE (di_tup (da_cons (DE.frz (x_fdiv (di_var (pv 0)) (dp_var (pv 2)))) (da_cons (DE.frz (x_fdiv (di_var (pv 1)) (dp_var (pv 2)))) da_nil))))))))
def m_in_lowest_terms : Fm := mir 3 2 g_in_lowest_terms
theorem o_in_lowest_terms (v : Ev K mg base) : DefOk (MM K) P w K mg base 4 "in_lowest_terms" "in_lowest_terms" (top 32) [] (He.ga K "in_lowest_terms") ["top", "bottom"] m_in_lowest_terms := by
  obtain ⟨fd, F⟩ := v.c.def_ 14 (d := d_in_lowest_terms) rfl
  exact ⟨fd, F, funD_mir (M := MM K) F S_in_lowest_terms (by decide) (fun cdv A outer s H E hr tk hp => b_in_lowest_terms v cdv A outer s H E hr tk hp)⟩
theorem f_in_lowest_terms (v : Ev K mg base) : TS.FnR P w K mg base (L2.CX P w) 4 (He.ga K "in_lowest_terms") (spD (MM K) m_in_lowest_terms) := by
  obtain ⟨fd, F, O⟩ := o_in_lowest_terms (P := P) (w := w) v
  exact fnR_raw (M := MM K) O (F.bindsN (ps := ["top", "bottom"]) fun _ _ _ _ _ _ us hl => match us, hl with | [_, _], _ => rfl)
abbrev g_ratio_1 : FS := (sExpr (fOwn m_require_integer_d1 (aCons (vI 0) aNil)))
abbrev g_ratio_2 : FS := (sExpr (fOwn m_require_integer_d1 (aCons (vI 1) aNil)))
abbrev g_ratio_3a_1 : FS := sNev
abbrev g_ratio_3 : FS := (sIf (fTst (fBin gEq (vI 1) (kD (.int 0)))) g_ratio_3a_1 sNil)
abbrev g_ratio_4 : FS := (sRet (fOwn m_in_lowest_terms (aCons (vI 0) (aCons (vI 1) aNil))))
def g_ratio : FS := (sSeq g_ratio_1 (sSeq g_ratio_2 (sSeq g_ratio_3 g_ratio_4)))
theorem S_ratio : FnScope ["numerator", "denominator"] ["numerator", "denominator"] (defScope (top 33)) := ⟨rfl, rfl, rfl, by decide +kernel, rfl, by decide +kernel, by decide +kernel⟩
theorem kp_ratio (v : Ev K mg base) : PySem.W.keepIn K (.ref (He.ga K "ratio")) = true := (v.c.def_ 15 (d := d_ratio) rfl).elim fun _ F => F.kp
theorem b_ratio (v : Ev K mg base) : BodyOk (MM K) P w K mg base 4 "ratio" (top 33) (He.ga K "ratio") ["numerator", "denominator"] g_ratio :=
  fun cdv A outer s H E hr tk hp => (dss_cons (ds_expr (d_own (fun h => pe_own ((f_require_integer_d1 v).mono (by decide)) hr tk (by rfl) (u_require_integer v) (kp_require_integer v) h) (da_cons (di_var (pv 0)) da_nil)))
    (dss_cons (ds_expr (d_own (fun h => pe_own ((f_require_integer_d1 v).mono (by decide)) hr tk (by rfl) (u_require_integer v) (kp_require_integer v) h) (da_cons (di_var (pv 1)) da_nil)))
    (dss_cons (ds_if (t_eq hr (di_var (pv 1)) (DI.pk di_int)) (dss_one ds_never) dss_nil)
    (dss_one (ds_ret (d_own (fun h => pe_own ((f_in_lowest_terms v).mono (by decide)) hr tk (by rfl) (u_in_lowest_terms v) (kp_in_lowest_terms v) h) (da_cons (di_var (pv 0)) (da_cons (di_var (pv 1)) da_nil))))))))
def m_ratio : Fm := mir 2 2 g_ratio
theorem o_ratio (v : Ev K mg base) : DefOk (MM K) P w K mg base 5 "ratio" "ratio" (top 33) [V.int 1] (He.ga K "ratio") ["numerator", "denominator"] m_ratio := by
  obtain ⟨fd, F⟩ := v.c.def_ 15 (d := d_ratio) rfl
  exact ⟨fd, F, funD_mir (M := MM K) F S_ratio (by decide) (fun cdv A outer s H E hr tk hp => b_ratio v cdv A outer s H E hr tk hp)⟩
theorem f_ratio (v : Ev K mg base) : TS.FnR P w K mg base (L2.CX P w) 5 (He.ga K "ratio") (spD (MM K) m_ratio) := by
  obtain ⟨fd, F, O⟩ := o_ratio (P := P) (w := w) v
  obtain ⟨ds, hv, hb⟩ := FunD.binds1 (ps := ["numerator", "denominator"]) F 2 1 (by intro z; cases z) rfl (fun T kV doc pm an cdv ct us its h1 h2 => match us, its, h1, h2 with | [_, _], [_], _, _ => ⟨_, rfl, rfl⟩)
  cases hv
  exact fnR_raw (M := MM K) O hb
abbrev g_Cycle_lap_1 : FS := (sRet (fCal gLen (aOne (fFld ix_own_remainders (vP 0)))))
def g_Cycle_lap : FS := g_Cycle_lap_1
theorem S_Cycle_lap : FnScope ["self"] ["self"] (defScope (inClass (top 37) 2)) := ⟨rfl, rfl, rfl, by decide +kernel, rfl, by decide +kernel, by decide +kernel⟩
theorem b_Cycle_lap (v : Ev K mg base) : BodyOk (MM K) P w K mg base 0 "Cycle.lap" (inClass (top 37) 2) (He.ma K (He.ga K "Cycle") "lap") ["self"] g_Cycle_lap :=
  fun cdv A outer s H E hr tk hp => (dss_one (ds_ret (b_len (by rfl) (u_len v) (db_one (DI.pk (di_fld (F_own_remainders v) (dp_var (pv 0))))))))
def m_Cycle_lap : Fm := mir 1 1 g_Cycle_lap
theorem o_Cycle_lap (v : Ev K mg base) : DefOk (MM K) P w K mg base 1 "lap" "Cycle.lap" (inClass (top 37) 2) [] (He.ma K (He.ga K "Cycle") "lap") ["self"] m_Cycle_lap := by
  obtain ⟨fd, F⟩ := v.c.def_ 16 (d := d_Cycle_lap) rfl
  exact ⟨fd, F, funD_mir (M := MM K) F S_Cycle_lap (by decide) (fun cdv A outer s H E hr tk hp => b_Cycle_lap v cdv A outer s H E hr tk hp)⟩
theorem f_Cycle_lap (v : Ev K mg base) : TS.FnR P w K mg base (L2.CX P w) 1 (He.ma K (He.ga K "Cycle") "lap") (spD (MM K) m_Cycle_lap) := by
  obtain ⟨fd, F, O⟩ := o_Cycle_lap (P := P) (w := w) v
  exact fnR_raw (M := MM K) O (F.bindsN (ps := ["self"]) fun _ _ _ _ _ _ us hl => match us, hl with | [_], _ => rfl)
def tab_lap : Nat → Option Fm := fun n => match n with
  | 2 => some m_Cycle_lap
  | _ => none
theorem T_lap (v : Ev K mg base) : ∀ n f, tab_lap n = some f → ∃ C g, (MM K).G n = some C ∧ Cls K C ∧ Meth K C "lap" g ∧ TS.FnR P w K mg base (L2.CX P w) 1 g (spD (MM K) f) := by
  intro n f h
  unfold tab_lap at h
  split at h
  · cases h
    exact ⟨_, _, rfl, He.cls_ok (v.c.fact 24 (f := .he (.cls "Cycle"))), He.meth_ok (v.c.fact 38 (f := .he (.meth "Cycle" "lap"))), (f_Cycle_lap v).mono (by decide)⟩
  · cases h
theorem n_lap : ∀ n f, tab_lap n = some f → (("lap" : Str) ∉ (MM K).nm n) := by
  intro n f h
  unfold tab_lap at h
  split at h
  · show ("lap" : Str) ∉ (["own_number", "own_remainders", "own_period", "own_sums", "own_drift"] : List Str)
    decide +kernel
  · cases h
def ix_own_period : Nat → Option Nat := fun n => match n with
  | 2 => some 2
  | 3 => some 0
  | _ => none
theorem F_own_period (v : Ev K mg base) : FldT (MM K) "own_period" ix_own_period := by
  intro n j h
  unfold ix_own_period at h
  split at h
  · cases h
    exact ⟨fun C e => by cases e; exact ⟨He.cls_ok (v.c.fact 24 (f := .he (.cls "Cycle"))), He.noat_ok (v.c.fact 39 (f := .he (.noat "Cycle" "own_period")))⟩, rfl, show ("own_period" : Str) ∉ (["own_number", "own_remainders", "own_period", "own_sums", "own_drift"] : List Str).take 2 from by decide +kernel⟩
  · cases h
    exact ⟨fun C e => by cases e; exact ⟨He.cls_ok (v.c.fact 19 (f := .he (.cls "Tracks"))), He.noat_ok (v.c.fact 40 (f := .he (.noat "Tracks" "own_period")))⟩, rfl, show ("own_period" : Str) ∉ (["own_period", "own_cycles", "own_spots", "own_line_cycles", "own_round_cycles", "own_ahead"] : List Str).take 0 from by decide +kernel⟩
  · cases h
abbrev g_Cycle_mean_speed_1 : FS := (sRet (fOwn m_ratio (aCons (frz (fBin gMul (fFld ix_own_period (vP 0)) (fFld ix_own_drift (vP 0)))) (aCons (frz (fMeth tab_lap (vI 0) aNil)) aNil))))
def g_Cycle_mean_speed : FS := g_Cycle_mean_speed_1
theorem S_Cycle_mean_speed : FnScope ["self"] ["self"] (defScope (inClass (top 37) 4)) := ⟨rfl, rfl, rfl, by decide +kernel, rfl, by decide +kernel, by decide +kernel⟩
theorem b_Cycle_mean_speed (v : Ev K mg base) : BodyOk (MM K) P w K mg base 5 "Cycle.mean_speed" (inClass (top 37) 4) (He.ma K (He.ga K "Cycle") "mean_speed") ["self"] g_Cycle_mean_speed :=
  fun cdv A outer s H E hr tk hp => (dss_one (ds_ret (d_own (fun h => pe_own ((f_ratio v).mono (by decide)) hr tk (by rfl) (u_ratio v) (kp_ratio v) h) (da_cons (DE.frz (x_mul (di_fld (F_own_period v) (dp_var (pv 0))) (DI.pk (di_fld (F_own_drift v) (dp_var (pv 0)))))) (da_cons (DE.frz (d_meth0 (fun h => pe_methD0 h (methOk_of (T_lap v)) (hr.mono (by decide : 1 ≤ 5)) tk) n_lap (di_var (pv 0)))) da_nil)))))
def m_Cycle_mean_speed : Fm := mir 1 1 g_Cycle_mean_speed
theorem o_Cycle_mean_speed (v : Ev K mg base) : DefOk (MM K) P w K mg base 6 "mean_speed" "Cycle.mean_speed" (inClass (top 37) 4) [] (He.ma K (He.ga K "Cycle") "mean_speed") ["self"] m_Cycle_mean_speed := by
  obtain ⟨fd, F⟩ := v.c.def_ 17 (d := d_Cycle_mean_speed) rfl
  exact ⟨fd, F, funD_mir (M := MM K) F S_Cycle_mean_speed (by decide) (fun cdv A outer s H E hr tk hp => b_Cycle_mean_speed v cdv A outer s H E hr tk hp)⟩
theorem f_Cycle_mean_speed (v : Ev K mg base) : TS.FnR P w K mg base (L2.CX P w) 6 (He.ma K (He.ga K "Cycle") "mean_speed") (spD (MM K) m_Cycle_mean_speed) := by
  obtain ⟨fd, F, O⟩ := o_Cycle_mean_speed (P := P) (w := w) v
  exact fnR_raw (M := MM K) O (F.bindsN (ps := ["self"]) fun _ _ _ _ _ _ us hl => match us, hl with | [_], _ => rfl)
def tab_mean_speed : Nat → Option Fm := fun n => match n with
  | 2 => some m_Cycle_mean_speed
  | _ => none
theorem T_mean_speed (v : Ev K mg base) : ∀ n f, tab_mean_speed n = some f → ∃ C g, (MM K).G n = some C ∧ Cls K C ∧ Meth K C "mean_speed" g ∧ TS.FnR P w K mg base (L2.CX P w) 6 g (spD (MM K) f) := by
  intro n f h
  unfold tab_mean_speed at h
  split at h
  · cases h
    exact ⟨_, _, rfl, He.cls_ok (v.c.fact 24 (f := .he (.cls "Cycle"))), He.meth_ok (v.c.fact 41 (f := .he (.meth "Cycle" "mean_speed"))), (f_Cycle_mean_speed v).mono (by decide)⟩
  · cases h
theorem n_mean_speed : ∀ n f, tab_mean_speed n = some f → (("mean_speed" : Str) ∉ (MM K).nm n) := by
  intro n f h
  unfold tab_mean_speed at h
  split at h
  · show ("mean_speed" : Str) ∉ (["own_number", "own_remainders", "own_period", "own_sums", "own_drift"] : List Str)
    decide +kernel
  · cases h
abbrev g_Cycle_lines_here_1 : FS := (sRet (fCal gAbs (aOne (fFld ix_own_drift (vP 0)))))
def g_Cycle_lines_here : FS := g_Cycle_lines_here_1
theorem S_Cycle_lines_here : FnScope ["self"] ["self"] (defScope (inClass (top 37) 3)) := ⟨rfl, rfl, rfl, by decide +kernel, rfl, by decide +kernel, by decide +kernel⟩
theorem b_Cycle_lines_here (v : Ev K mg base) : BodyOk (MM K) P w K mg base 0 "Cycle.lines_here" (inClass (top 37) 3) (He.ma K (He.ga K "Cycle") "lines_here") ["self"] g_Cycle_lines_here :=
  fun cdv A outer s H E hr tk hp => (dss_one (ds_ret (b_abs (by rfl) (u_abs v) (db_one (DI.pk (di_fld (F_own_drift v) (dp_var (pv 0))))))))
def m_Cycle_lines_here : Fm := mir 1 1 g_Cycle_lines_here
theorem o_Cycle_lines_here (v : Ev K mg base) : DefOk (MM K) P w K mg base 1 "lines_here" "Cycle.lines_here" (inClass (top 37) 3) [] (He.ma K (He.ga K "Cycle") "lines_here") ["self"] m_Cycle_lines_here := by
  obtain ⟨fd, F⟩ := v.c.def_ 18 (d := d_Cycle_lines_here) rfl
  exact ⟨fd, F, funD_mir (M := MM K) F S_Cycle_lines_here (by decide) (fun cdv A outer s H E hr tk hp => b_Cycle_lines_here v cdv A outer s H E hr tk hp)⟩
theorem f_Cycle_lines_here (v : Ev K mg base) : TS.FnR P w K mg base (L2.CX P w) 1 (He.ma K (He.ga K "Cycle") "lines_here") (spD (MM K) m_Cycle_lines_here) := by
  obtain ⟨fd, F, O⟩ := o_Cycle_lines_here (P := P) (w := w) v
  exact fnR_raw (M := MM K) O (F.bindsN (ps := ["self"]) fun _ _ _ _ _ _ us hl => match us, hl with | [_], _ => rfl)
def tab_lines_here : Nat → Option Fm := fun n => match n with
  | 2 => some m_Cycle_lines_here
  | _ => none
theorem T_lines_here (v : Ev K mg base) : ∀ n f, tab_lines_here n = some f → ∃ C g, (MM K).G n = some C ∧ Cls K C ∧ Meth K C "lines_here" g ∧ TS.FnR P w K mg base (L2.CX P w) 1 g (spD (MM K) f) := by
  intro n f h
  unfold tab_lines_here at h
  split at h
  · cases h
    exact ⟨_, _, rfl, He.cls_ok (v.c.fact 24 (f := .he (.cls "Cycle"))), He.meth_ok (v.c.fact 42 (f := .he (.meth "Cycle" "lines_here"))), (f_Cycle_lines_here v).mono (by decide)⟩
  · cases h
theorem n_lines_here : ∀ n f, tab_lines_here n = some f → (("lines_here" : Str) ∉ (MM K).nm n) := by
  intro n f h
  unfold tab_lines_here at h
  split at h
  · show ("lines_here" : Str) ∉ (["own_number", "own_remainders", "own_period", "own_sums", "own_drift"] : List Str)
    decide +kernel
  · cases h
def ix_own_cycles : Nat → Option Nat := fun n => match n with
  | 3 => some 1
  | _ => none
theorem F_own_cycles (v : Ev K mg base) : FldT (MM K) "own_cycles" ix_own_cycles := by
  intro n j h
  unfold ix_own_cycles at h
  split at h
  · cases h
    exact ⟨fun C e => by cases e; exact ⟨He.cls_ok (v.c.fact 19 (f := .he (.cls "Tracks"))), He.noat_ok (v.c.fact 43 (f := .he (.noat "Tracks" "own_cycles")))⟩, rfl, show ("own_cycles" : Str) ∉ (["own_period", "own_cycles", "own_spots", "own_line_cycles", "own_round_cycles", "own_ahead"] : List Str).take 1 from by decide +kernel⟩
  · cases h
abbrev g_cycles_in_1 : FS := (sPar 2 3 (fLst aNil) (fun δ => .ok (.own (.dK [] [])) δ))
abbrev g_cycles_in_2_1 : FS := (sPar 4 5 (fLst aNil) (toE (vI 1)))
abbrev g_cycles_in_2_2_1 : FS := (sAsg (toE (kD (.bl true))) (tSub 3 (vI 5)))
abbrev g_cycles_in_2_2_2 : FS := (sExpr (toE (fMut 4 mAppend (aCons (vI 5) aNil))))
abbrev g_cycles_in_2_2_3 : FS := (sAsg (fBin gMod (frz (fBin gAdd (vI 5) (frz (fBin gIx (vI 0) (vP 5))))) (frz (fCal gLen (aOne (vP 0))))) (tName 5))
abbrev g_cycles_in_2_2B : FS := (sSeq g_cycles_in_2_2_1 (sSeq g_cycles_in_2_2_2 g_cycles_in_2_2_3))
abbrev g_cycles_in_2_2 : FS := (sWhile (muN 0) (fTst (fBin gNotIn (vI 5) (vP 3))) g_cycles_in_2_2B)
abbrev g_cycles_in_2_3a_1 : FS := (sExpr (toE (fMut 2 mAppend (aCons (vI 4) aNil))))
abbrev g_cycles_in_2_3 : FS := (sIf (fTst (fBinV gNe 4 (frz (fLst aNil)))) g_cycles_in_2_3a_1 sNil)
abbrev g_cycles_in_2B : FS := (sSeq g_cycles_in_2_1 (sSeq g_cycles_in_2_2 g_cycles_in_2_3))
abbrev g_cycles_in_2 : FS := (sFor (itRg1 (frz (fCal gLen (aOne (vP 0))))) (tName 1) g_cycles_in_2B)
abbrev g_cycles_in_3 : FS := (sRet (vR 2))
def g_cycles_in : FS := (sSeq g_cycles_in_1 (sSeq g_cycles_in_2 g_cycles_in_3))
theorem S_cycles_in : FnScope ["offsets", "first", "found", "seen", "cycle", "here"] ["offsets"] (defScope (top 25)) := ⟨rfl, rfl, rfl, by decide +kernel, rfl, by decide +kernel, by decide +kernel⟩
theorem kp_cycles_in (v : Ev K mg base) : PySem.W.keepIn K (.ref (He.ga K "cycles_in")) = true := (v.c.def_ 19 (d := d_cycles_in) rfl).elim fun _ F => F.kp
theorem b_cycles_in (v : Ev K mg base) : BodyOk (MM K) P w K mg base 0 "cycles_in" (top 25) (He.ga K "cycles_in") ["offsets", "first", "found", "seen", "cycle", "here"] g_cycles_in :=
  fun cdv A outer s H E hr tk hp => (dss_cons (ds_par (i := 2) (j := 3) (by rfl) S_cycles_in.nd (by rfl) (by rfl) (by decide) (by rfl) (by rfl) (de_lst da_nil) de_dnew (by rfl))
    (dss_cons (ds_for hp (by rfl) (dit_rg1 (by rfl) (u_range v) (DE.frz (b_len (by rfl) (u_len v) (db_one (dp_var (pv 0)))))) (dg_name (pg_name S_cycles_in.nd (by rfl) (by first | exact Or.inl rfl | exact Or.inr rfl))) (tgt_name 1) (dss_cons (ds_par (i := 4) (j := 5) (by rfl) S_cycles_in.nd (by rfl) (by rfl) (by decide) (by rfl) (by rfl) (de_lst da_nil) (DI.toE (di_var (pv 1))) (by rfl))
    (dss_cons (ds_while (muN 0) hp (t_notIn hr (di_var (pv 5)) (dp_var (pv 3))) (dss_cons (ds_asg (DI.toE di_bl) (dg_sub (pv 3) (di_var (pv 5)) (hu_of hr)) tgt_sub)
    (dss_cons (ds_expr (DI.toE (m_append (pv 4) (da_cons (di_var (pv 5)) da_nil))))
    (dss_one (ds_set (i := 5) S_cycles_in.nd (by rfl) (by first | exact Or.inl rfl | exact Or.inr rfl) (x_mod (DE.frz (x_add (di_var (pv 5)) (DE.pk (x_ix hr (di_var (pv 0)) (dp_var (pv 5)))))) (DE.pk (b_len (by rfl) (u_len v) (db_one (dp_var (pv 0)))))))))))
    (dss_one (ds_if (t_neV hr (pv 4) (DE.pk (de_lst da_nil))) (dss_one (ds_expr (DI.toE (m_append (pv 2) (da_cons (di_var (pv 4)) da_nil))))) dss_nil)))))
    (dss_one (ds_ret (de_var (pv 2))))))
def m_cycles_in : Fm := mir 6 1 g_cycles_in
theorem o_cycles_in (v : Ev K mg base) : DefOk (MM K) P w K mg base 1 "cycles_in" "cycles_in" (top 25) [] (He.ga K "cycles_in") ["offsets"] m_cycles_in := by
  obtain ⟨fd, F⟩ := v.c.def_ 19 (d := d_cycles_in) rfl
  exact ⟨fd, F, funD_mir (M := MM K) F S_cycles_in (by decide) (fun cdv A outer s H E hr tk hp => b_cycles_in v cdv A outer s H E hr tk hp)⟩
theorem f_cycles_in (v : Ev K mg base) : TS.FnR P w K mg base (L2.CX P w) 1 (He.ga K "cycles_in") (spD (MM K) m_cycles_in) := by
  obtain ⟨fd, F, O⟩ := o_cycles_in (P := P) (w := w) v
  exact fnR_raw (M := MM K) O (F.bindsN (ps := ["offsets"]) fun _ _ _ _ _ _ us hl => match us, hl with | [_], _ => rfl)
def ix_own_number : Nat → Option Nat := fun n => match n with
  | 2 => some 0
  | _ => none
theorem F_own_number (v : Ev K mg base) : FldT (MM K) "own_number" ix_own_number := by
  intro n j h
  unfold ix_own_number at h
  split at h
  · cases h
    exact ⟨fun C e => by cases e; exact ⟨He.cls_ok (v.c.fact 24 (f := .he (.cls "Cycle"))), He.noat_ok (v.c.fact 45 (f := .he (.noat "Cycle" "own_number")))⟩, rfl, show ("own_number" : Str) ∉ (["own_number", "own_remainders", "own_period", "own_sums", "own_drift"] : List Str).take 0 from by decide +kernel⟩
  · cases h
def ix_own_sums : Nat → Option Nat := fun n => match n with
  | 2 => some 3
  | _ => none
theorem F_own_sums (v : Ev K mg base) : FldT (MM K) "own_sums" ix_own_sums := by
  intro n j h
  unfold ix_own_sums at h
  split at h
  · cases h
    exact ⟨fun C e => by cases e; exact ⟨He.cls_ok (v.c.fact 24 (f := .he (.cls "Cycle"))), He.noat_ok (v.c.fact 46 (f := .he (.noat "Cycle" "own_sums")))⟩, rfl, show ("own_sums" : Str) ∉ (["own_number", "own_remainders", "own_period", "own_sums", "own_drift"] : List Str).take 3 from by decide +kernel⟩
  · cases h
abbrev g_running_sums_1 : FS := (sAsg (fLst (aCons (kD (.int 0)) aNil)) (tName 1))
abbrev g_running_sums_2_1 : FS := (sExpr (toE (fMut 1 mAppend (aCons (frz (fBin gAdd (frz (fBinV gIx 1 (fUnI (fun i => -i) (kD (.int 1))))) (vP 2))) aNil))))
abbrev g_running_sums_2B : FS := g_running_sums_2_1
abbrev g_running_sums_2 : FS := (sFor (itSeq (vI 0)) (tName 2) g_running_sums_2B)
abbrev g_running_sums_3 : FS := (sRet (vR 1))
def g_running_sums : FS := (sSeq g_running_sums_1 (sSeq g_running_sums_2 g_running_sums_3))
theorem S_running_sums : FnScope ["numbers", "found", "number"] ["numbers"] (defScope (top 26)) := ⟨rfl, rfl, rfl, by decide +kernel, rfl, by decide +kernel, by decide +kernel⟩
theorem kp_running_sums (v : Ev K mg base) : PySem.W.keepIn K (.ref (He.ga K "running_sums")) = true := (v.c.def_ 20 (d := d_running_sums) rfl).elim fun _ F => F.kp
theorem b_running_sums (v : Ev K mg base) : BodyOk (MM K) P w K mg base 0 "running_sums" (top 26) (He.ga K "running_sums") ["numbers", "found", "number"] g_running_sums :=
  fun cdv A outer s H E hr tk hp => (dss_cons (ds_set (i := 1) S_running_sums.nd (by rfl) (by first | exact Or.inl rfl | exact Or.inr rfl) (de_lst (da_cons di_int da_nil)))
    (dss_cons (ds_for hp (by rfl) (dit_list (di_var (pv 0))) (dg_name (pg_name S_running_sums.nd (by rfl) (by first | exact Or.inl rfl | exact Or.inr rfl))) (tgt_name 2) (dss_one (ds_expr (DI.toE (m_append (pv 1) (da_cons (DE.frz (x_add (DE.frz (x_ixV hr (pv 1) (DI.pk (di_neg di_int)))) (dp_var (pv 2)))) da_nil))))))
    (dss_one (ds_ret (de_var (pv 1))))))
def m_running_sums : Fm := mir 3 1 g_running_sums
theorem o_running_sums (v : Ev K mg base) : DefOk (MM K) P w K mg base 1 "running_sums" "running_sums" (top 26) [] (He.ga K "running_sums") ["numbers"] m_running_sums := by
  obtain ⟨fd, F⟩ := v.c.def_ 20 (d := d_running_sums) rfl
  exact ⟨fd, F, funD_mir (M := MM K) F S_running_sums (by decide) (fun cdv A outer s H E hr tk hp => b_running_sums v cdv A outer s H E hr tk hp)⟩
theorem f_running_sums (v : Ev K mg base) : TS.FnR P w K mg base (L2.CX P w) 1 (He.ga K "running_sums") (spD (MM K) m_running_sums) := by
  obtain ⟨fd, F, O⟩ := o_running_sums (P := P) (w := w) v
  exact fnR_raw (M := MM K) O (F.bindsN (ps := ["numbers"]) fun _ _ _ _ _ _ us hl => match us, hl with | [_], _ => rfl)
abbrev g_Cycle___init___1 : FS := (sFldS 0 ix_own_number (vI 1))
abbrev g_Cycle___init___2 : FS := (sFldS 0 ix_own_remainders (frz (fCal gTuple (aOne (vP 2)))))
abbrev g_Cycle___init___3 : FS := (sFldS 0 ix_own_period (frz (fCal gLen (aOne (vP 3)))))
abbrev g_Cycle___init___4 : FS := (sFldS 0 ix_own_sums (frz (fOwn m_running_sums (aCons (frz (fLc (stName 4) [4] (itSeq (vI 2)) tTrue (frz (fBin gIx (vI 3) (vP 4))))) aNil))))
abbrev g_Cycle___init___5 : FS := (sFldS 0 ix_own_drift (frz (fBin gFdiv (frz (fBin gIx (fFld ix_own_sums (vP 0)) (fUnI (fun i => -i) (kD (.int 1))))) (fFld ix_own_period (vP 0)))))
def g_Cycle___init__ : FS := (sSeq g_Cycle___init___1 (sSeq g_Cycle___init___2 (sSeq g_Cycle___init___3 (sSeq g_Cycle___init___4 g_Cycle___init___5))))
theorem S_Cycle___init__ : FnScope ["self", "number", "remainders", "offsets", "remainder"] ["self", "number", "remainders", "offsets"] (defScope (inClass (top 37) 0)) := ⟨rfl, rfl, rfl, by decide +kernel, rfl, by decide +kernel, by decide +kernel⟩
theorem b_Cycle___init__ (v : Ev K mg base) : BodyOk (MM K) P w K mg base 1 "Cycle.__init__" (inClass (top 37) 0) (He.ma K (He.ga K "Cycle") "__init__") ["self", "number", "remainders", "offsets", "remainder"] g_Cycle___init__ :=
  fun cdv A outer s H E hr tk hp => (dss_cons (ds_fld (F_own_number v) nm_lt (pv 0) (di_var (pv 1)))
    (dss_cons (ds_fld (F_own_remainders v) nm_lt (pv 0) (DE.frz (b_tuple (by rfl) (u_tuple v) (db_one (dp_var (pv 2))))))
    (dss_cons (ds_fld (F_own_period v) nm_lt (pv 0) (DE.frz (b_len (by rfl) (u_len v) (db_one (dp_var (pv 3))))))
    (dss_cons (ds_fld (F_own_sums v) nm_lt (pv 0) (DE.frz (d_own (fun h => pe_own ((f_running_sums v).mono (by decide)) hr tk (by rfl) (u_running_sums v) (kp_running_sums v) h) (da_cons (DE.frz (de_lc (own := [("remainder", 4)]) (by rfl) (by rfl) S_Cycle___init__.nd (dit_list (di_var (pv 2))) (blkOk_by (by kernel_rfl)) (st_name 4) (fun _ _ _ _ _ => pg_name S_Cycle___init__.nd (by rfl) (by first | exact Or.inl rfl | exact Or.inr rfl)) (fun _ _ _ _ _ => pts_no) (fun _ _ _ _ _ => (DE.frz (x_ix hr (di_var (pv 3)) (dp_var (pv 4))))))) da_nil))))
    (dss_one (ds_fld (F_own_drift v) nm_lt (pv 0) (DE.frz (x_fdiv (DE.frz (x_ix hr (di_fld (F_own_sums v) (dp_var (pv 0))) (DI.pk (di_neg di_int)))) (DI.pk (di_fld (F_own_period v) (dp_var (pv 0))))))))))))
def m_Cycle___init__ : Fm := mir 5 4 g_Cycle___init__
theorem o_Cycle___init__ (v : Ev K mg base) : DefOk (MM K) P w K mg base 2 "__init__" "Cycle.__init__" (inClass (top 37) 0) [] (He.ma K (He.ga K "Cycle") "__init__") ["self", "number", "remainders", "offsets"] m_Cycle___init__ := by
  obtain ⟨fd, F⟩ := v.c.def_ 21 (d := d_Cycle___init__) rfl
  exact ⟨fd, F, funD_mir (M := MM K) F S_Cycle___init__ (by decide) (fun cdv A outer s H E hr tk hp => b_Cycle___init__ v cdv A outer s H E hr tk hp)⟩
theorem f_Cycle___init__ (v : Ev K mg base) : TS.FnR P w K mg base (L2.CX P w) 2 (He.ma K (He.ga K "Cycle") "__init__") (spD (MM K) m_Cycle___init__) := by
  obtain ⟨fd, F, O⟩ := o_Cycle___init__ (P := P) (w := w) v
  exact fnR_raw (M := MM K) O (F.bindsN (ps := ["self", "number", "remainders", "offsets"]) fun _ _ _ _ _ _ us hl => match us, hl with | [_, _, _, _], _ => rfl)
def ix_own_offsets : Nat → Option Nat := fun n => match n with
  | 0 => some 0
  | _ => none
theorem F_own_offsets (v : Ev K mg base) : FldT (MM K) "own_offsets" ix_own_offsets := by
  intro n j h
  unfold ix_own_offsets at h
  split at h
  · cases h
    exact ⟨fun C e => by cases e; exact ⟨He.cls_ok (v.c.fact 50 (f := .he (.cls "Plan"))), He.noat_ok (v.c.fact 51 (f := .he (.noat "Plan" "own_offsets")))⟩, rfl, show ("own_offsets" : Str) ∉ (["own_offsets", "own_sources"] : List Str).take 0 from by decide +kernel⟩
  · cases h
abbrev g_Plan_offsets_1 : FS := (sRet (fCal gList (aOne (fFld ix_own_offsets (vP 0)))))
def g_Plan_offsets : FS := g_Plan_offsets_1
theorem S_Plan_offsets : FnScope ["self"] ["self"] (defScope (inClass (top 28) 7)) := ⟨rfl, rfl, rfl, by decide +kernel, rfl, by decide +kernel, by decide +kernel⟩
theorem b_Plan_offsets (v : Ev K mg base) : BodyOk (MM K) P w K mg base 0 "Plan.offsets" (inClass (top 28) 7) (He.ma K (He.ga K "Plan") "offsets") ["self"] g_Plan_offsets :=
  fun cdv A outer s H E hr tk hp => (dss_one (ds_ret (b_list (by rfl) (u_list v) (db_one (DI.pk (di_fld (F_own_offsets v) (dp_var (pv 0))))))))
def m_Plan_offsets : Fm := mir 1 1 g_Plan_offsets
theorem o_Plan_offsets (v : Ev K mg base) : DefOk (MM K) P w K mg base 1 "offsets" "Plan.offsets" (inClass (top 28) 7) [] (He.ma K (He.ga K "Plan") "offsets") ["self"] m_Plan_offsets := by
  obtain ⟨fd, F⟩ := v.c.def_ 22 (d := d_Plan_offsets) rfl
  exact ⟨fd, F, funD_mir (M := MM K) F S_Plan_offsets (by decide) (fun cdv A outer s H E hr tk hp => b_Plan_offsets v cdv A outer s H E hr tk hp)⟩
theorem f_Plan_offsets (v : Ev K mg base) : TS.FnR P w K mg base (L2.CX P w) 1 (He.ma K (He.ga K "Plan") "offsets") (spD (MM K) m_Plan_offsets) := by
  obtain ⟨fd, F, O⟩ := o_Plan_offsets (P := P) (w := w) v
  exact fnR_raw (M := MM K) O (F.bindsN (ps := ["self"]) fun _ _ _ _ _ _ us hl => match us, hl with | [_], _ => rfl)
def tab_offsets : Nat → Option Fm := fun n => match n with
  | 0 => some m_Plan_offsets
  | _ => none
theorem T_offsets (v : Ev K mg base) : ∀ n f, tab_offsets n = some f → ∃ C g, (MM K).G n = some C ∧ Cls K C ∧ Meth K C "offsets" g ∧ TS.FnR P w K mg base (L2.CX P w) 1 g (spD (MM K) f) := by
  intro n f h
  unfold tab_offsets at h
  split at h
  · cases h
    exact ⟨_, _, rfl, He.cls_ok (v.c.fact 50 (f := .he (.cls "Plan"))), He.meth_ok (v.c.fact 52 (f := .he (.meth "Plan" "offsets"))), (f_Plan_offsets v).mono (by decide)⟩
  · cases h
theorem n_offsets : ∀ n f, tab_offsets n = some f → (("offsets" : Str) ∉ (MM K).nm n) := by
  intro n f h
  unfold tab_offsets at h
  split at h
  · show ("offsets" : Str) ∉ (["own_offsets", "own_sources"] : List Str)
    decide +kernel
  · cases h
abbrev g_Plan_period_1 : FS := (sRet (fCal gLen (aOne (fFld ix_own_offsets (vP 0)))))
def g_Plan_period : FS := g_Plan_period_1
theorem S_Plan_period : FnScope ["self"] ["self"] (defScope (inClass (top 28) 5)) := ⟨rfl, rfl, rfl, by decide +kernel, rfl, by decide +kernel, by decide +kernel⟩
theorem b_Plan_period (v : Ev K mg base) : BodyOk (MM K) P w K mg base 0 "Plan.period" (inClass (top 28) 5) (uA "property" "Plan" "period" K) ["self"] g_Plan_period :=
  fun cdv A outer s H E hr tk hp => (dss_one (ds_ret (b_len (by rfl) (u_len v) (db_one (DI.pk (di_fld (F_own_offsets v) (dp_var (pv 0))))))))
def m_Plan_period : Fm := mir 1 1 g_Plan_period
theorem o_Plan_period (v : Ev K mg base) : DefOk (MM K) P w K mg base 1 "period" "Plan.period" (inClass (top 28) 5) [] (uA "property" "Plan" "period" K) ["self"] m_Plan_period := by
  obtain ⟨fd, F⟩ := v.c.def_ 23 (d := d_Plan_period) rfl
  exact ⟨fd, F, funD_mir (M := MM K) F S_Plan_period (by decide) (fun cdv A outer s H E hr tk hp => b_Plan_period v cdv A outer s H E hr tk hp)⟩
theorem f_Plan_period (v : Ev K mg base) : TS.FnR P w K mg base (L2.CX P w) 1 (uA "property" "Plan" "period" K) (spD (MM K) m_Plan_period) := by
  obtain ⟨fd, F, O⟩ := o_Plan_period (P := P) (w := w) v
  exact fnR_raw (M := MM K) O (F.bindsN (ps := ["self"]) fun _ _ _ _ _ _ us hl => match us, hl with | [_], _ => rfl)
def ptab_period : Nat → Option Fm := fun n => match n with
  | 0 => some m_Plan_period
  | _ => none
theorem PT_period (v : Ev K mg base) : ∀ n f, ptab_period n = some f → ∃ C p g, (MM K).G n = some C ∧ Cls K C ∧ PropOf K C "period" p g ∧ TS.FnR P w K mg base (L2.CX P w) 1 g (spD (MM K) f) := by
  intro n f h
  unfold ptab_period at h
  split at h
  · cases h
    exact ⟨_, _, _, rfl, He.cls_ok (v.c.fact 50 (f := .he (.cls "Plan"))), prop_ok (v.c.fact 53 (f := .prop "Plan" "period")), (f_Plan_period v).mono (by decide)⟩
  · cases h
abbrev g_Tracks___init___N_5B_2B_1 : GN := (nStore 9 ix_own_spots (fTup (aCons (vI 4) (aCons (vI 7) aNil))) (vI 8))
abbrev g_Tracks___init___N_5B_2B : GN := g_Tracks___init___N_5B_2B_1
abbrev g_Tracks___init___N_5B_3a_1 : GN := (nSetdK 9 ix_own_round_cycles (frz (fCal gLen (aOne (vP 5)))))
abbrev g_Tracks___init___N_5B_3a_2 : GN := (nStoreR 9 ix_own_ahead (frz (fCal gLen (aOne (vP 9)))) (vI 3))
abbrev g_Tracks___init___N_5B_3b_1 : GN := (nSetdT 9 ix_own_line_cycles (frz (fMeth tab_mean_speed (vI 4) aNil)))
abbrev g_Tracks___init___N_5B_3b_2 : GN := (nStoreR 9 ix_own_ahead (frz (fCal gSum (aOne (frz (fLc (stName 10) [10] (itSeq (vI 9)) tTrue (frz (fMeth tab_lines_here (vI 10) aNil))))))) (vI 3))
abbrev g_Tracks___init___N_5B_1 : GN := (nAsg2 9 5 6 (frz (fMeth tab_told (vI 4) aNil)))
abbrev g_Tracks___init___N_5B_2 : GN := (nForG 9 7 8 (itEnumLT (vI 5)) g_Tracks___init___N_5B_2B)
abbrev g_Tracks___init___N_5B_3 : GN := (nIf 9 (fTst (fBin gEq (vI 6) (kD (.int 0)))) (nSeq g_Tracks___init___N_5B_3a_1 g_Tracks___init___N_5B_3a_2) (nSeq g_Tracks___init___N_5B_3b_1 g_Tracks___init___N_5B_3b_2))
abbrev g_Tracks___init___N_5B_4 : GN := (nApp 9 (vI 4))
abbrev g_Tracks___init___N_5B : GN := (nSeq g_Tracks___init___N_5B_1 (nSeq g_Tracks___init___N_5B_2 (nSeq g_Tracks___init___N_5B_3 g_Tracks___init___N_5B_4)))
abbrev g_Tracks___init___N_1 : GN := (nNew ix_own_spots (.dk [] []))
abbrev g_Tracks___init___N_2 : GN := (nNew ix_own_line_cycles (.rt []))
abbrev g_Tracks___init___N_3 : GN := (nNew ix_own_round_cycles (.rk []))
abbrev g_Tracks___init___N_4 : GN := (nNew ix_own_ahead (.dk [] []))
abbrev g_Tracks___init___N_5 : GN := (nForF 3 4 ix_own_cycles g_Tracks___init___N_5B)
abbrev g_Tracks___init___N : GN := (nSeq g_Tracks___init___N_1 (nSeq g_Tracks___init___N_2 (nSeq g_Tracks___init___N_3 (nSeq g_Tracks___init___N_4 g_Tracks___init___N_5))))
abbrev g_Tracks___init___M : FS := (nestS 0 9 g_Tracks___init___N)
abbrev g_Tracks___init___3 : FS := (sFldS 0 ix_own_cycles (frz (fLc (stPair 3 9) [3, 9] (itEnum (frz (fOwn m_cycles_in (aCons (vI 2) aNil)))) tTrue (frz (fMake 2 m_Cycle___init__ (aCons (vI 3) (aCons (vI 9) (aCons (vI 2) aNil))))))))
abbrev g_Tracks___init___2 : FS := (sAsg (fMeth tab_offsets (vI 1) aNil) (tName 2))
abbrev g_Tracks___init___1 : FS := (sFldS 0 ix_own_period (fProp ptab_period (vI 1)))
def g_Tracks___init__ : FS := (sSeq g_Tracks___init___1 (sSeq g_Tracks___init___2 (sSeq g_Tracks___init___3 g_Tracks___init___M)))
theorem S_Tracks___init__ : FnScope ["self", "plan", "offsets", "number", "cycle", "remainders", "drift", "index", "remainder", "row", "one"] ["self", "plan"] (defScope (inClass (top 38) 0)) := ⟨rfl, rfl, rfl, by decide +kernel, rfl, by decide +kernel, by decide +kernel⟩
theorem b_Tracks___init__ (v : Ev K mg base) : BodyOk (MM K) P w K mg base 6 "Tracks.__init__" (inClass (top 38) 0) (He.ma K (He.ga K "Tracks") "__init__") ["self", "plan", "offsets", "number", "cycle", "remainders", "drift", "index", "remainder", "row", "one"] g_Tracks___init__ :=
  fun cdv A outer s H E hr tk hp => (dss_cons (ds_fld (F_own_period v) nm_lt (pv 0) (di_prop (propOk_of (PT_period v)) (hr.mono (by decide)) (di_var (pv 1))))
    (dss_cons (ds_set (i := 2) S_Tracks___init__.nd (by rfl) (by first | exact Or.inl rfl | exact Or.inr rfl) (d_meth0 (fun h => pe_methD0 h (methOk_of (T_offsets v)) (hr.mono (by decide : 1 ≤ 6)) tk) n_offsets (di_var (pv 1))))
    (dss_cons (ds_fld (F_own_cycles v) nm_lt (pv 0) (DE.frz (de_lc (own := [("number", 3), ("row", 9)]) (by rfl) (by rfl) S_Tracks___init__.nd (dit_enum (by rfl) (u_enumerate v) (DE.frz (d_own (fun h => pe_own ((f_cycles_in v).mono (by decide)) hr tk (by rfl) (u_cycles_in v) (kp_cycles_in v) h) (da_cons (di_var (pv 2)) da_nil)))) (blkOk_by (by kernel_rfl)) (st_pair (i := 3) (j := 9) (by decide)) (fun _ _ _ _ _ => pg_tup (by rfl) (pgs_cons (pg_name S_Tracks___init__.nd (by rfl) (by first | exact Or.inl rfl | exact Or.inr rfl)) (pgs_cons (pg_name S_Tracks___init__.nd (by rfl) (by first | exact Or.inl rfl | exact Or.inr rfl)) pgs_nil))) (fun _ _ _ _ _ => pts_no) (fun _ _ _ _ _ => (DE.frz (d_make (fun h => pe_makeS (He.mkr_ok (v.c.fact 48 (f := .he (.mkr "Cycle")))) ((f_Cycle___init__ v).mono (by decide)) (hr.mono (by decide : 3 ≤ 6)) TS.takes0 (by rfl) (u_Cycle v) h) rfl (da_cons (di_var (pv 3)) (da_cons (di_var (pv 9)) (da_cons (di_var (pv 2)) da_nil)))))))))
    (dss_nest (dn_cons (dn_new pe_dnewK (fun σ H Q h => h) newOk_dk (F_own_spots v) nm_lt (pv 0))
    (dn_cons (dn_new pe_dnewT (fun σ H Q h => h) newOk_rt (F_own_line_cycles v) nm_lt (pv 0))
    (dn_cons (dn_new pe_dnewK (fun σ H Q h => h) newOk_rk (F_own_round_cycles v) nm_lt (pv 0))
    (dn_cons (dn_new pe_dnewK (fun σ H Q h => h) newOk_dk (F_own_ahead v) nm_lt (pv 0))
    (dn_one (dn_forF (F_own_cycles v) hp (by rfl) (show 3 ≠ 0 ∧ 3 ≠ 9 by decide) (show 4 ≠ 0 ∧ 4 ≠ 9 by decide) (by rfl) (u_enumerate v) (pv 0) (pg_tup (by rfl) (pgs_cons (pg_name S_Tracks___init__.nd (by rfl) (by first | exact Or.inl rfl | exact Or.inr rfl)) (pgs_cons (pg_name S_Tracks___init__.nd (by rfl) (by first | exact Or.inl rfl | exact Or.inr rfl)) pgs_nil))) (dn_cons (dn_asg2 (show 5 ≠ 0 ∧ 5 ≠ 9 by decide) (show 6 ≠ 0 ∧ 6 ≠ 9 by decide) (pg_tup (by rfl) (pgs_cons (pg_name S_Tracks___init__.nd (by rfl) (by first | exact Or.inl rfl | exact Or.inr rfl)) (pgs_cons (pg_name S_Tracks___init__.nd (by rfl) (by first | exact Or.inl rfl | exact Or.inr rfl)) pgs_nil))) (DE.frz (d_meth0 (fun h => pe_methD0 h (methOk_of (T_told v)) (hr.mono (by decide : 1 ≤ 6)) tk) n_told (di_var (pv 4)))))
    (dn_cons (dn_forG hp (by rfl) (show 7 ≠ 0 ∧ 7 ≠ 9 by decide) (show 8 ≠ 0 ∧ 8 ≠ 9 by decide) (dit_enumLT (by rfl) (u_enumerate v) (di_var (pv 5))) (pg_tup (by rfl) (pgs_cons (pg_name S_Tracks___init__.nd (by rfl) (by first | exact Or.inl rfl | exact Or.inr rfl)) (pgs_cons (pg_name S_Tracks___init__.nd (by rfl) (by first | exact Or.inl rfl | exact Or.inr rfl)) pgs_nil))) (dn_one (dn_store (F_own_spots v) (pv 0) (di_tup (da_cons (di_var (pv 4)) (da_cons (di_var (pv 7)) da_nil))) (di_var (pv 8)) (hu_of hr))))
    (dn_cons (dn_if (t_eq hr (di_var (pv 6)) (DI.pk di_int)) (dn_cons (dn_setdK (F_own_round_cycles v) (show 0 ≠ 9 by decide) S_Tracks___init__.nd (by rfl) (by first | exact Or.inl rfl | exact Or.inr rfl) (pv 0) (DE.frz (b_len (by rfl) (u_len v) (db_one (dp_var (pv 5))))))
    (dn_one (dn_storeR (F_own_ahead v) (pv 0) (DE.frz (b_len (by rfl) (u_len v) (db_one (dp_var (pv 9))))) (di_var (pv 3)) (hu_of hr)))) (dn_cons (dn_setdT (F_own_line_cycles v) (hu_of hr) (show 0 ≠ 9 by decide) S_Tracks___init__.nd (by rfl) (by first | exact Or.inl rfl | exact Or.inr rfl) (pv 0) (DE.frz (d_meth0 (fun h => pe_methD0 h (methOk_of (T_mean_speed v)) (hr.mono (by decide : 6 ≤ 6)) tk) n_mean_speed (di_var (pv 4)))))
    (dn_one (dn_storeR (F_own_ahead v) (pv 0) (DE.frz (b_sum (by rfl) (by rfl) (u_sum v) (db_one (DE.pk (de_lc (own := [("one", 10)]) (by rfl) (by rfl) S_Tracks___init__.nd (dit_list (di_var (pv 9))) (blkOk_by (by kernel_rfl)) (st_name 10) (fun _ _ _ _ _ => pg_name S_Tracks___init__.nd (by rfl) (by first | exact Or.inl rfl | exact Or.inr rfl)) (fun _ _ _ _ _ => pts_no) (fun _ _ _ _ _ => (DE.frz (d_meth0 (fun h => pe_methD0 h (methOk_of (T_lines_here v)) (hr.mono (by decide : 1 ≤ 6)) TS.takes0) n_lines_here (di_var (pv 10)))))))))) (di_var (pv 3)) (hu_of hr)))))
    (dn_one (dn_app (pv 9) (di_var (pv 4)))))))))))))))))
def m_Tracks___init__ : Fm := mir 11 2 g_Tracks___init__
theorem o_Tracks___init__ (v : Ev K mg base) : DefOk (MM K) P w K mg base 7 "__init__" "Tracks.__init__" (inClass (top 38) 0) [] (He.ma K (He.ga K "Tracks") "__init__") ["self", "plan"] m_Tracks___init__ := by
  obtain ⟨fd, F⟩ := v.c.def_ 24 (d := d_Tracks___init__) rfl
  exact ⟨fd, F, funD_mir (M := MM K) F S_Tracks___init__ (by decide) (fun cdv A outer s H E hr tk hp => b_Tracks___init__ v cdv A outer s H E hr tk hp)⟩
theorem f_Tracks___init__ (v : Ev K mg base) : TS.FnR P w K mg base (L2.CX P w) 7 (He.ma K (He.ga K "Tracks") "__init__") (spD (MM K) m_Tracks___init__) := by
  obtain ⟨fd, F, O⟩ := o_Tracks___init__ (P := P) (w := w) v
  exact fnR_raw (M := MM K) O (F.bindsN (ps := ["self", "plan"]) fun _ _ _ _ _ _ us hl => match us, hl with | [_, _], _ => rfl)
abbrev g_least_table_1 : FS := (sAsg (fCal gLen (aOne (vP 0))) (tName 1))
abbrev g_least_table_2_1a_1 : FS := (sRet (fSl (vI 0) oNone (oSome (vI 2))))
abbrev g_least_table_2_1 : FS := (sIf (fAnd (fTst (fBin gEq (frz (fBin gMod (vI 1) (vP 2))) (kD (.int 0)))) (fTst (fBin gEq (frz (fBin gMul (frz (fSl (vI 0) oNone (oSome (vI 2)))) (frz (fBin gFdiv (vI 1) (vP 2))))) (vP 0)))) g_least_table_2_1a_1 sNil)
abbrev g_least_table_2B : FS := g_least_table_2_1
abbrev g_least_table_2 : FS := (sFor (itRg2 (kD (.int 1)) (vI 1)) (tName 2) g_least_table_2B)
abbrev g_least_table_3 : FS := (sRet (vR 0))
def g_least_table : FS := (sSeq g_least_table_1 (sSeq g_least_table_2 g_least_table_3))
theorem S_least_table : FnScope ["offsets", "length", "period"] ["offsets"] (defScope (top 20)) := ⟨rfl, rfl, rfl, by decide +kernel, rfl, by decide +kernel, by decide +kernel⟩
theorem kp_least_table (v : Ev K mg base) : PySem.W.keepIn K (.ref (He.ga K "least_table")) = true := (v.c.def_ 25 (d := d_least_table) rfl).elim fun _ F => F.kp
theorem b_least_table (v : Ev K mg base) : BodyOk (MM K) P w K mg base 0 "least_table" (top 20) (He.ga K "least_table") ["offsets", "length", "period"] g_least_table :=
  fun cdv A outer s H E hr tk hp => (dss_cons (ds_set (i := 1) S_least_table.nd (by rfl) (by first | exact Or.inl rfl | exact Or.inr rfl) (b_len (by rfl) (u_len v) (db_one (dp_var (pv 0)))))
    (dss_cons (ds_for hp (by rfl) (dit_rg2 (by rfl) (u_range v) di_int (di_var (pv 1))) (dg_name (pg_name S_least_table.nd (by rfl) (by first | exact Or.inl rfl | exact Or.inr rfl))) (tgt_name 2) (dss_one (ds_if (DW.pt (dw_and (t_eq hr (DE.frz (x_mod (di_var (pv 1)) (dp_var (pv 2)))) (DI.pk di_int)) (dw_and1 (t_eq hr (DE.frz (x_mul (DE.frz (de_sl (di_var (pv 0)) do_none (do_some (di_var (pv 2))))) (DE.pk (x_fdiv (di_var (pv 1)) (dp_var (pv 2)))))) (dp_var (pv 0)))))) (dss_one (ds_ret (de_sl (di_var (pv 0)) do_none (do_some (di_var (pv 2)))))) dss_nil)))
    (dss_one (ds_ret (de_var (pv 0))))))
def m_least_table : Fm := mir 3 1 g_least_table
theorem o_least_table (v : Ev K mg base) : DefOk (MM K) P w K mg base 1 "least_table" "least_table" (top 20) [] (He.ga K "least_table") ["offsets"] m_least_table := by
  obtain ⟨fd, F⟩ := v.c.def_ 25 (d := d_least_table) rfl
  exact ⟨fd, F, funD_mir (M := MM K) F S_least_table (by decide) (fun cdv A outer s H E hr tk hp => b_least_table v cdv A outer s H E hr tk hp)⟩
theorem f_least_table (v : Ev K mg base) : TS.FnR P w K mg base (L2.CX P w) 1 (He.ga K "least_table") (spD (MM K) m_least_table) := by
  obtain ⟨fd, F, O⟩ := o_least_table (P := P) (w := w) v
  exact fnR_raw (M := MM K) O (F.bindsN (ps := ["offsets"]) fun _ _ _ _ _ _ us hl => match us, hl with | [_], _ => rfl)
def is_list_tuple : Tg → Option Bool := tabTy ["list", "tuple"] fun _ => none
theorem is_list_tuple_ok : IsT (MM K) ((["list", "tuple"] : List String).map Value.type) is_list_tuple := isT_own0
abbrev g_checked_table_1a_1 : FS := sNev
abbrev g_checked_table_1 : FS := (sIf (fOr (fNot (fTst (toE (fIsi is_list_tuple (vP 0))))) (fTst (fBin gEq (frz (fCal gLen (aOne (vP 0)))) (kD (.int 0))))) g_checked_table_1a_1 sNil)
abbrev g_checked_table_2 : FS := (sAsg (fCal gLen (aOne (vP 0))) (tName 2))
abbrev g_checked_table_3a_1 : FS := sNev
abbrev g_checked_table_3 : FS := (sIf (fTst (fBin gGt (vI 2) (kD (.int 2520)))) g_checked_table_3a_1 sNil)
abbrev g_checked_table_4_1a_1 : FS := sNev
abbrev g_checked_table_4_1 : FS := (sIf (fNot (fTst (fOwn m_is_integer (aCons (vI 5) aNil)))) g_checked_table_4_1a_1 sNil)
abbrev g_checked_table_4B : FS := g_checked_table_4_1
abbrev g_checked_table_4 : FS := (sFor (itEnum (vI 0)) (tTup 2 (tsCons (tName 4) (tsCons (tName 5) tsNil))) g_checked_table_4B)
abbrev g_checked_table_5 : FS := (sAsg (fun δ => .ok (.own (.dK [] [])) δ) (tName 3))
abbrev g_checked_table_6_1 : FS := (sAsg (fBin gMod (frz (fBin gAdd (frz (fBin gMul (vI 1) (vP 4))) (vP 5))) (vP 2)) (tName 6))
abbrev g_checked_table_6_2a_1 : FS := sNev
abbrev g_checked_table_6_2 : FS := (sIf (fTst (fBin gIn (vI 6) (vP 3))) g_checked_table_6_2a_1 sNil)
abbrev g_checked_table_6_3 : FS := (sAsg (toE (vI 4)) (tSub 3 (vI 6)))
abbrev g_checked_table_6B : FS := (sSeq g_checked_table_6_1 (sSeq g_checked_table_6_2 g_checked_table_6_3))
abbrev g_checked_table_6 : FS := (sFor (itEnum (vI 0)) (tTup 2 (tsCons (tName 4) (tsCons (tName 5) tsNil))) g_checked_table_6B)
abbrev g_checked_table_7 : FS := (sRet (fCal gList (aOne (vP 0))))
def g_checked_table : FS := (sSeq g_checked_table_1 (sSeq g_checked_table_2 (sSeq g_checked_table_3 (sSeq g_checked_table_4 (sSeq g_checked_table_5 (sSeq g_checked_table_6 g_checked_table_7))))))
theorem S_checked_table : FnScope ["offsets", "sign", "period", "first", "position", "offset", "remainder"] ["offsets", "sign"] (defScope (top 19)) := ⟨rfl, rfl, rfl, by decide +kernel, rfl, by decide +kernel, by decide +kernel⟩
theorem kp_checked_table (v : Ev K mg base) : PySem.W.keepIn K (.ref (He.ga K "checked_table")) = true := (v.c.def_ 26 (d := d_checked_table) rfl).elim fun _ F => F.kp
theorem b_checked_table (v : Ev K mg base) : BodyOk (MM K) P w K mg base 1 "checked_table" (top 19) (He.ga K "checked_table") ["offsets", "sign", "period", "first", "position", "offset", "remainder"] g_checked_table :=
  fun cdv A outer s H E hr tk hp => (dss_cons (ds_if (DW.pt (dw_or (dt_not (dt_val (DI.toE (b_isiT (vs := [V.ty "list", V.ty "tuple"]) (by rfl) (u_isinstance v) (dp_var (pv 0)) (pa_cons (k_ty bt_list (by rfl) (u_list v)) (pa_cons (k_ty bt_tuple (by rfl) (u_tuple v)) pa_nil)) (fun σ H Q h => h) (Paired.cons (ClsV.ty "list") (Paired.cons (ClsV.ty "tuple") Paired.nil)) (by decide) is_list_tuple_ok)))) (dw_or1 (t_eq hr (DE.frz (b_len (by rfl) (u_len v) (db_one (dp_var (pv 0))))) (DI.pk di_int))))) (dss_one ds_never) dss_nil)
    (dss_cons (ds_set (i := 2) S_checked_table.nd (by rfl) (by first | exact Or.inl rfl | exact Or.inr rfl) (b_len (by rfl) (u_len v) (db_one (dp_var (pv 0)))))
    (dss_cons (ds_if (t_gt (di_var (pv 2)) (DI.pk (Exists.elim (cint_ok (v.c.fact 57 (f := .cint "Move" "MAX_PERIOD" 2520))) fun _ hu => di_cval (pe_glob (by rfl) (u_Move v) (by rfl)) (cread_ok (v.c.fact 56 (f := .cread "Move"))) hu fun F => rep_int' _))) (dss_one ds_never) dss_nil)
    (dss_cons (ds_for hp (by rfl) (dit_enum (by rfl) (u_enumerate v) (di_var (pv 0))) (dg_tup (by rfl) (dgs_cons (dg_name (pg_name S_checked_table.nd (by rfl) (by first | exact Or.inl rfl | exact Or.inr rfl))) (dgs_cons (dg_name (pg_name S_checked_table.nd (by rfl) (by first | exact Or.inl rfl | exact Or.inr rfl))) dgs_nil))) (tgt_tup (tgs_cons (tgt_name 4) (tgs_cons (tgt_name 5) tgs_nil))) (dss_one (ds_if (dt_not (dt_val (d_own (fun h => pe_own ((f_is_integer v).mono (by decide)) hr tk (by rfl) (u_is_integer v) (kp_is_integer v) h) (da_cons (di_var (pv 5)) da_nil)))) (dss_one ds_never) dss_nil)))
    (dss_cons (ds_set (i := 3) S_checked_table.nd (by rfl) (by first | exact Or.inl rfl | exact Or.inr rfl) de_dnew)
    (dss_cons (ds_for hp (by rfl) (dit_enum (by rfl) (u_enumerate v) (di_var (pv 0))) (dg_tup (by rfl) (dgs_cons (dg_name (pg_name S_checked_table.nd (by rfl) (by first | exact Or.inl rfl | exact Or.inr rfl))) (dgs_cons (dg_name (pg_name S_checked_table.nd (by rfl) (by first | exact Or.inl rfl | exact Or.inr rfl))) dgs_nil))) (tgt_tup (tgs_cons (tgt_name 4) (tgs_cons (tgt_name 5) tgs_nil))) (dss_cons (ds_set (i := 6) S_checked_table.nd (by rfl) (by first | exact Or.inl rfl | exact Or.inr rfl) (x_mod (DE.frz (x_add (DE.frz (x_mul (di_var (pv 1)) (dp_var (pv 4)))) (dp_var (pv 5)))) (dp_var (pv 2))))
    (dss_cons (ds_if (t_in hr (di_var (pv 6)) (dp_var (pv 3))) (dss_one ds_never) dss_nil)
    (dss_one (ds_asg (DI.toE (di_var (pv 4))) (dg_sub (pv 3) (di_var (pv 6)) (hu_of hr)) tgt_sub)))))
    (dss_one (ds_ret (b_list (by rfl) (u_list v) (db_one (dp_var (pv 0))))))))))))
def m_checked_table : Fm := mir 7 2 g_checked_table
theorem o_checked_table (v : Ev K mg base) : DefOk (MM K) P w K mg base 2 "checked_table" "checked_table" (top 19) [] (He.ga K "checked_table") ["offsets", "sign"] m_checked_table := by
  obtain ⟨fd, F⟩ := v.c.def_ 26 (d := d_checked_table) rfl
  exact ⟨fd, F, funD_mir (M := MM K) F S_checked_table (by decide) (fun cdv A outer s H E hr tk hp => b_checked_table v cdv A outer s H E hr tk hp)⟩
theorem f_checked_table (v : Ev K mg base) : TS.FnR P w K mg base (L2.CX P w) 2 (He.ga K "checked_table") (spD (MM K) m_checked_table) := by
  obtain ⟨fd, F, O⟩ := o_checked_table (P := P) (w := w) v
  exact fnR_raw (M := MM K) O (F.bindsN (ps := ["offsets", "sign"]) fun _ _ _ _ _ _ us hl => match us, hl with | [_, _], _ => rfl)
def ix_own_sources : Nat → Option Nat := fun n => match n with
  | 0 => some 1
  | _ => none
theorem F_own_sources (v : Ev K mg base) : FldT (MM K) "own_sources" ix_own_sources := by
  intro n j h
  unfold ix_own_sources at h
  split at h
  · cases h
    exact ⟨fun C e => by cases e; exact ⟨He.cls_ok (v.c.fact 50 (f := .he (.cls "Plan"))), He.noat_ok (v.c.fact 63 (f := .he (.noat "Plan" "own_sources")))⟩, rfl, show ("own_sources" : Str) ∉ (["own_offsets", "own_sources"] : List Str).take 1 from by decide +kernel⟩
  · cases h
abbrev g_sources_of_1 : FS := (sAsg (fLc (stName 3) [3] (itSeq (vI 0)) tTrue (kD (.int 0))) (tName 1))
abbrev g_sources_of_2_1 : FS := (sAsg (toE (vI 2)) (tSub 1 (frz (fBin gMod (frz (fBin gAdd (vI 2) (vP 3))) (frz (fCal gLen (aOne (vP 0))))))))
abbrev g_sources_of_2B : FS := g_sources_of_2_1
abbrev g_sources_of_2 : FS := (sFor (itEnum (vI 0)) (tTup 2 (tsCons (tName 2) (tsCons (tName 3) tsNil))) g_sources_of_2B)
abbrev g_sources_of_3 : FS := (sRet (vR 1))
def g_sources_of : FS := (sSeq g_sources_of_1 (sSeq g_sources_of_2 g_sources_of_3))
theorem S_sources_of : FnScope ["offsets", "found", "place", "offset"] ["offsets"] (defScope (top 27)) := ⟨rfl, rfl, rfl, by decide +kernel, rfl, by decide +kernel, by decide +kernel⟩
theorem kp_sources_of (v : Ev K mg base) : PySem.W.keepIn K (.ref (He.ga K "sources_of")) = true := (v.c.def_ 27 (d := d_sources_of) rfl).elim fun _ F => F.kp
theorem b_sources_of (v : Ev K mg base) : BodyOk (MM K) P w K mg base 0 "sources_of" (top 27) (He.ga K "sources_of") ["offsets", "found", "place", "offset"] g_sources_of :=
  fun cdv A outer s H E hr tk hp => (dss_cons (ds_setLc (i := 1) (own := [("offset", 3)]) (by rfl) (by rfl) S_sources_of.nd (by rfl) (by rfl) (by rfl) (dit_list (di_var (pv 0))) (blkOk_by (by kernel_rfl)) (st_name 3) (fun _ _ _ _ _ => pg_name S_sources_of.nd (by rfl) (by first | exact Or.inl rfl | exact Or.inr rfl)) (fun _ _ _ _ _ => pts_no) (fun _ _ _ _ _ => di_int))
    (dss_cons (ds_for hp (by rfl) (dit_enum (by rfl) (u_enumerate v) (di_var (pv 0))) (dg_tup (by rfl) (dgs_cons (dg_name (pg_name S_sources_of.nd (by rfl) (by first | exact Or.inl rfl | exact Or.inr rfl))) (dgs_cons (dg_name (pg_name S_sources_of.nd (by rfl) (by first | exact Or.inl rfl | exact Or.inr rfl))) dgs_nil))) (tgt_tup (tgs_cons (tgt_name 2) (tgs_cons (tgt_name 3) tgs_nil))) (dss_one (ds_asg (DI.toE (di_var (pv 2))) (dg_sub (pv 1) (DE.frz (x_mod (DE.frz (x_add (di_var (pv 2)) (dp_var (pv 3)))) (DE.pk (b_len (by rfl) (u_len v) (db_one (dp_var (pv 0))))))) (hu_of hr)) tgt_sub)))
    (dss_one (ds_ret (de_var (pv 1))))))
def m_sources_of : Fm := mir 4 1 g_sources_of
theorem o_sources_of (v : Ev K mg base) : DefOk (MM K) P w K mg base 1 "sources_of" "sources_of" (top 27) [] (He.ga K "sources_of") ["offsets"] m_sources_of := by
  obtain ⟨fd, F⟩ := v.c.def_ 27 (d := d_sources_of) rfl
  exact ⟨fd, F, funD_mir (M := MM K) F S_sources_of (by decide) (fun cdv A outer s H E hr tk hp => b_sources_of v cdv A outer s H E hr tk hp)⟩
theorem f_sources_of (v : Ev K mg base) : TS.FnR P w K mg base (L2.CX P w) 1 (He.ga K "sources_of") (spD (MM K) m_sources_of) := by
  obtain ⟨fd, F, O⟩ := o_sources_of (P := P) (w := w) v
  exact fnR_raw (M := MM K) O (F.bindsN (ps := ["offsets"]) fun _ _ _ _ _ _ us hl => match us, hl with | [_], _ => rfl)
abbrev g_Plan___init___1 : FS := (sFldS 0 ix_own_offsets (frz (fOwn m_least_table (aCons (frz (fOwn m_checked_table (aCons (vI 1) (aCons (kD (.int 1)) aNil)))) aNil))))
abbrev g_Plan___init___2 : FS := (sFldS 0 ix_own_sources (frz (fOwn m_sources_of (aCons (fFld ix_own_offsets (vP 0)) aNil))))
def g_Plan___init__ : FS := (sSeq g_Plan___init___1 g_Plan___init___2)
theorem S_Plan___init__ : FnScope ["self", "offsets"] ["self", "offsets"] (defScope (inClass (top 28) 1)) := ⟨rfl, rfl, rfl, by decide +kernel, rfl, by decide +kernel, by decide +kernel⟩
theorem b_Plan___init__ (v : Ev K mg base) : BodyOk (MM K) P w K mg base 2 "Plan.__init__" (inClass (top 28) 1) (He.ma K (He.ga K "Plan") "__init__") ["self", "offsets"] g_Plan___init__ :=
  fun cdv A outer s H E hr tk hp => (dss_cons (ds_fld (F_own_offsets v) nm_lt (pv 0) (DE.frz (d_own (fun h => pe_own ((f_least_table v).mono (by decide)) hr tk (by rfl) (u_least_table v) (kp_least_table v) h) (da_cons (DE.frz (d_own (fun h => pe_own ((f_checked_table v).mono (by decide)) hr tk (by rfl) (u_checked_table v) (kp_checked_table v) h) (da_cons (di_var (pv 1)) (da_cons (Exists.elim (cint_ok (v.c.fact 61 (f := .cint "Plan" "SIGN" 1))) fun _ hu => di_cval (pe_glob (by rfl) (u_Plan v) (by rfl)) (cread_ok (v.c.fact 60 (f := .cread "Plan"))) hu fun F => rep_int' _) da_nil)))) da_nil))))
    (dss_one (ds_fld (F_own_sources v) nm_lt (pv 0) (DE.frz (d_own (fun h => pe_own ((f_sources_of v).mono (by decide)) hr tk (by rfl) (u_sources_of v) (kp_sources_of v) h) (da_cons (di_fld (F_own_offsets v) (dp_var (pv 0))) da_nil))))))
def m_Plan___init__ : Fm := mir 2 2 g_Plan___init__
theorem o_Plan___init__ (v : Ev K mg base) : DefOk (MM K) P w K mg base 3 "__init__" "Plan.__init__" (inClass (top 28) 1) [] (He.ma K (He.ga K "Plan") "__init__") ["self", "offsets"] m_Plan___init__ := by
  obtain ⟨fd, F⟩ := v.c.def_ 28 (d := d_Plan___init__) rfl
  exact ⟨fd, F, funD_mir (M := MM K) F S_Plan___init__ (by decide) (fun cdv A outer s H E hr tk hp => b_Plan___init__ v cdv A outer s H E hr tk hp)⟩
theorem f_Plan___init__ (v : Ev K mg base) : TS.FnR P w K mg base (L2.CX P w) 3 (He.ma K (He.ga K "Plan") "__init__") (spD (MM K) m_Plan___init__) := by
  obtain ⟨fd, F, O⟩ := o_Plan___init__ (P := P) (w := w) v
  exact fnR_raw (M := MM K) O (F.bindsN (ps := ["self", "offsets"]) fun _ _ _ _ _ _ us hl => match us, hl with | [_, _], _ => rfl)
abbrev g__law_place_1 : FS := (sAsg (fOwnIo m__law_draw 0 (aCons (kD (.int 4)) aNil)) (tName 1))
abbrev g__law_place_2 : FS := (sRet (fBin gIx (frz (fLst (aCons (frz (fBin gSub (frz (fOwnIo m__law_draw 0 (aCons (kD (.int 81)) aNil))) (kD (.int 40)))) (aCons (frz (fBin gSub (frz (fOwnIo m__law_draw 0 (aCons (kD (.int 2001)) aNil))) (kD (.int 1000)))) (aCons (frz (fOwnIo m__law_great 0 (aCons (kD (.int 3)) aNil))) (aCons (frz (fOwnIo m__law_great 0 (aCons (kD (.int 10)) aNil))) aNil)))))) (vP 1)))
def g__law_place : FS := (sSeq g__law_place_1 g__law_place_2)
theorem S__law_place : FnScope ["_law_pot_here", "_law_way"] ["_law_pot_here"] (defScope (top 53)) := ⟨rfl, rfl, rfl, by decide +kernel, rfl, by decide +kernel, by decide +kernel⟩
theorem kp__law_place (v : Ev K mg base) : PySem.W.keepIn K (.ref (He.ga K "_law_place")) = true := (v.c.def_ 29 (d := d__law_place) rfl).elim fun _ F => F.kp
theorem b__law_place (v : Ev K mg base) : BodyOk (MM K) P w K mg base 3 "_law_place" (top 53) (He.ga K "_law_place") ["_law_pot_here", "_law_way"] g__law_place :=
  fun cdv A outer s H E hr tk hp => (dss_cons (ds_set (i := 1) S__law_place.nd (by rfl) (by first | exact Or.inl rfl | exact Or.inr rfl) (d_ownIo (fun h => pe_own ((f__law_draw v).mono (by decide)) hr tk (by rfl) (u__law_draw v) (kp__law_draw v) h) (pv 0) (da_cons di_int da_nil)))
    (dss_one (ds_ret (x_ix hr (DE.frz (de_lst (da_cons (DE.frz (x_sub (DE.frz (d_ownIo (fun h => pe_own ((f__law_draw v).mono (by decide)) hr tk (by rfl) (u__law_draw v) (kp__law_draw v) h) (pv 0) (da_cons di_int da_nil))) (DI.pk di_int))) (da_cons (DE.frz (x_sub (DE.frz (d_ownIo (fun h => pe_own ((f__law_draw v).mono (by decide)) hr tk (by rfl) (u__law_draw v) (kp__law_draw v) h) (pv 0) (da_cons di_int da_nil))) (DI.pk di_int))) (da_cons (DE.frz (d_ownIo (fun h => pe_own ((f__law_great v).mono (by decide)) hr tk (by rfl) (u__law_great v) (kp__law_great v) h) (pv 0) (da_cons di_int da_nil))) (da_cons (DE.frz (d_ownIo (fun h => pe_own ((f__law_great v).mono (by decide)) hr tk (by rfl) (u__law_great v) (kp__law_great v) h) (pv 0) (da_cons di_int da_nil))) da_nil)))))) (dp_var (pv 1))))))
def m__law_place : Fm := mir 2 1 g__law_place
theorem o__law_place (v : Ev K mg base) : DefOk (MM K) P w K mg base 4 "_law_place" "_law_place" (top 53) [] (He.ga K "_law_place") ["_law_pot_here"] m__law_place := by
  obtain ⟨fd, F⟩ := v.c.def_ 29 (d := d__law_place) rfl
  exact ⟨fd, F, funD_mir (M := MM K) F S__law_place (by decide) (fun cdv A outer s H E hr tk hp => b__law_place v cdv A outer s H E hr tk hp)⟩
theorem f__law_place (v : Ev K mg base) : TS.FnR P w K mg base (L2.CX P w) 4 (He.ga K "_law_place") (spD (MM K) m__law_place) := by
  obtain ⟨fd, F, O⟩ := o__law_place (P := P) (w := w) v
  exact fnR_raw (M := MM K) O (F.bindsN (ps := ["_law_pot_here"]) fun _ _ _ _ _ _ us hl => match us, hl with | [_], _ => rfl)
abbrev g__law_address_1_1a_1 : FS := (sAsg (toE (fIndexK (vI 4) (frz (fBin gMod (frz (fCal gInt (aOne (vP 2)))) (frz (fCal gLen (aOne (vP 0)))))))) (tName 7))
abbrev g__law_address_1_1a_2 : FS := (sAsg (fBin gFdiv (frz (fBin gSub (frz (fBin gSub (vI 2) (frz (fBin gIx (vI 4) (kD (.int 0)))))) (frz (fBin gIx (vI 5) (vP 7))))) (frz (fCal gLen (aOne (vP 0))))) (tName 8))
abbrev g__law_address_1_1a_3a_1 : FS := (sRet (toE (fTup (aCons (kD (.str "round")) (aCons (vI 3) (aCons (vI 8) (aCons (vI 7) aNil)))))))
abbrev g__law_address_1_1a_3 : FS := (sIf (fTst (fBin gEq (vI 6) (kD (.int 0)))) g__law_address_1_1a_3a_1 sNil)
abbrev g__law_address_1_1a_4 : FS := (sAsg (fBin gMod (frz (fCal gInt (aOne (vP 8)))) (frz (fCal gAbs (aOne (vP 6))))) (tName 9))
abbrev g__law_address_1_1a_5 : FS := (sRet (toE (fTup (aCons (kD (.str "line")) (aCons (vI 3) (aCons (vI 9) (aCons (frz (fBin gAdd (vI 7) (frz (fBin gMul (frz (fCal gLen (aOne (vP 4)))) (frz (fBin gFdiv (frz (fBin gSub (vI 8) (vP 9))) (vP 6))))))) aNil)))))))
abbrev g__law_address_1_1 : FS := (sIf (fTst (fBin gIn (frz (fBin gMod (frz (fCal gInt (aOne (vP 2)))) (frz (fCal gLen (aOne (vP 0)))))) (vP 4))) (sSeq g__law_address_1_1a_1 (sSeq g__law_address_1_1a_2 (sSeq g__law_address_1_1a_3 (sSeq g__law_address_1_1a_4 g__law_address_1_1a_5)))) sNil)
abbrev g__law_address_1B : FS := g__law_address_1_1
abbrev g__law_address_1 : FS := (sFor (itEnum (vI 1)) (tTup 2 (tsCons (tName 3) (tsCons (tTup 3 (tsCons (tName 4) (tsCons (tName 5) (tsCons (tName 6) tsNil)))) tsNil))) g__law_address_1B)
abbrev g__law_address_2 : FS := (sRet (toE (kD .non)))
def g__law_address : FS := (sSeq g__law_address_1 g__law_address_2)
theorem S__law_address : FnScope ["_law_table_here", "_law_cycles_here", "_law_spot", "_law_number", "_law_row", "_law_sums", "_law_drift", "_law_index", "_law_block", "_law_line"] ["_law_table_here", "_law_cycles_here", "_law_spot"] (defScope (top 50)) := ⟨rfl, rfl, rfl, by decide +kernel, rfl, by decide +kernel, by decide +kernel⟩
theorem kp__law_address (v : Ev K mg base) : PySem.W.keepIn K (.ref (He.ga K "_law_address")) = true := (v.c.def_ 30 (d := d__law_address) rfl).elim fun _ F => F.kp
theorem b__law_address (v : Ev K mg base) : BodyOk (MM K) P w K mg base 0 "_law_address" (top 50) (He.ga K "_law_address") ["_law_table_here", "_law_cycles_here", "_law_spot", "_law_number", "_law_row", "_law_sums", "_law_drift", "_law_index", "_law_block", "_law_line"] g__law_address :=
  fun cdv A outer s H E hr tk hp => (dss_cons (ds_for hp (by rfl) (dit_enum (by rfl) (u_enumerate v) (di_var (pv 1))) (dg_tup (by rfl) (dgs_cons (dg_name (pg_name S__law_address.nd (by rfl) (by first | exact Or.inl rfl | exact Or.inr rfl))) (dgs_cons (dg_tup (by rfl) (dgs_cons (dg_name (pg_name S__law_address.nd (by rfl) (by first | exact Or.inl rfl | exact Or.inr rfl))) (dgs_cons (dg_name (pg_name S__law_address.nd (by rfl) (by first | exact Or.inl rfl | exact Or.inr rfl))) (dgs_cons (dg_name (pg_name S__law_address.nd (by rfl) (by first | exact Or.inl rfl | exact Or.inr rfl))) dgs_nil)))) dgs_nil))) (tgt_tup (tgs_cons (tgt_name 3) (tgs_cons (tgt_tup (tgs_cons (tgt_name 4) (tgs_cons (tgt_name 5) (tgs_cons (tgt_name 6) tgs_nil)))) tgs_nil))) (dss_one (ds_if (t_in hr (DE.frz (x_mod (DE.frz (b_int (by rfl) (u_int v) (db_one (dp_var (pv 2))))) (DE.pk (b_len (by rfl) (u_len v) (db_one (dp_var (pv 0))))))) (dp_var (pv 4))) (dss_cons (ds_set (i := 7) S__law_address.nd (by rfl) (by first | exact Or.inl rfl | exact Or.inr rfl) (DI.toE (di_indexK (di_var (pv 4)) (DE.frz (x_mod (DE.frz (b_int (by rfl) (u_int v) (db_one (dp_var (pv 2))))) (DE.pk (b_len (by rfl) (u_len v) (db_one (dp_var (pv 0))))))) ⟨by rfl, by rfl, by rfl, by rfl⟩)))
    (dss_cons (ds_set (i := 8) S__law_address.nd (by rfl) (by first | exact Or.inl rfl | exact Or.inr rfl) (x_fdiv (DE.frz (x_sub (DE.frz (x_sub (di_var (pv 2)) (DE.pk (x_ix hr (di_var (pv 4)) (DI.pk di_int))))) (DE.pk (x_ix hr (di_var (pv 5)) (dp_var (pv 7)))))) (DE.pk (b_len (by rfl) (u_len v) (db_one (dp_var (pv 0)))))))
    (dss_cons (ds_if (t_eq hr (di_var (pv 6)) (DI.pk di_int)) (dss_one (ds_ret (DI.toE (di_tup (da_cons di_str (da_cons (di_var (pv 3)) (da_cons (di_var (pv 8)) (da_cons (di_var (pv 7)) da_nil)))))))) dss_nil)
    (dss_cons (ds_set (i := 9) S__law_address.nd (by rfl) (by first | exact Or.inl rfl | exact Or.inr rfl) (x_mod (DE.frz (b_int (by rfl) (u_int v) (db_one (dp_var (pv 8))))) (DE.pk (b_abs (by rfl) (u_abs v) (db_one (dp_var (pv 6)))))))
    (dss_one (ds_ret (DI.toE (di_tup (da_cons di_str (da_cons (di_var (pv 3)) (da_cons (di_var (pv 9)) (da_cons (DE.frz (x_add (di_var (pv 7)) (DE.pk (x_mul (DE.frz (b_len (by rfl) (u_len v) (db_one (dp_var (pv 4))))) (DE.pk (x_fdiv (DE.frz (x_sub (di_var (pv 8)) (dp_var (pv 9)))) (dp_var (pv 6)))))))) da_nil)))))))))))) dss_nil)))
    (dss_one (ds_ret (DI.toE di_non))))
def m__law_address : Fm := mir 10 3 g__law_address
theorem o__law_address (v : Ev K mg base) : DefOk (MM K) P w K mg base 1 "_law_address" "_law_address" (top 50) [] (He.ga K "_law_address") ["_law_table_here", "_law_cycles_here", "_law_spot"] m__law_address := by
  obtain ⟨fd, F⟩ := v.c.def_ 30 (d := d__law_address) rfl
  exact ⟨fd, F, funD_mir (M := MM K) F S__law_address (by decide) (fun cdv A outer s H E hr tk hp => b__law_address v cdv A outer s H E hr tk hp)⟩
theorem f__law_address (v : Ev K mg base) : TS.FnR P w K mg base (L2.CX P w) 1 (He.ga K "_law_address") (spD (MM K) m__law_address) := by
  obtain ⟨fd, F, O⟩ := o__law_address (P := P) (w := w) v
  exact fnR_raw (M := MM K) O (F.bindsN (ps := ["_law_table_here", "_law_cycles_here", "_law_spot"]) fun _ _ _ _ _ _ us hl => match us, hl with | [_, _, _], _ => rfl)
def is_tuple : Tg → Option Bool := tabTy ["tuple"] fun _ => none
theorem is_tuple_ok : IsT (MM K) ((["tuple"] : List String).map Value.type) is_tuple := isT_own0
abbrev g_Cycle_has_address_1a_1 : FS := (sRet (fAndV (frz (fBin gEq (vI 1) (kD (.str "round")))) (fChain gLe gLt (kD (.int 0)) (vI 3) (frz (fMeth tab_lap (vI 0) aNil)))))
abbrev g_Cycle_has_address_1 : FS := (sIf (fTst (fBin gEq (fFld ix_own_drift (vP 0)) (kD (.int 0)))) g_Cycle_has_address_1a_1 sNil)
abbrev g_Cycle_has_address_2 : FS := (sRet (fAndV (frz (fBin gEq (vI 1) (kD (.str "line")))) (fChain gLe gLt (kD (.int 0)) (vI 2) (frz (fCal gAbs (aOne (fFld ix_own_drift (vP 0))))))))
def g_Cycle_has_address : FS := (sSeq g_Cycle_has_address_1 g_Cycle_has_address_2)
theorem S_Cycle_has_address : FnScope ["self", "kind", "track", "index"] ["self", "kind", "track", "index"] (defScope (inClass (top 37) 7)) := ⟨rfl, rfl, rfl, by decide +kernel, rfl, by decide +kernel, by decide +kernel⟩
theorem b_Cycle_has_address (v : Ev K mg base) : BodyOk (MM K) P w K mg base 1 "Cycle.has_address" (inClass (top 37) 7) (He.ma K (He.ga K "Cycle") "has_address") ["self", "kind", "track", "index"] g_Cycle_has_address :=
  fun cdv A outer s H E hr tk hp => (dss_cons (ds_if (t_eq hr (di_fld (F_own_drift v) (dp_var (pv 0))) (DI.pk di_int)) (dss_one (ds_ret (de_and (DE.frz (x_eq hr (di_var (pv 1)) (DI.pk (di_gstr (by rfl) (He.str_ok v.X v.G (v.c.fact 70 (f := .he (.str "ROUND" "round")))))))) (de_one (d_chain op_le op_lt od_B od_B di_int (di_var (pv 3)) (DE.frz (d_meth0 (fun h => pe_methD0 h (methOk_of (T_lap v)) (hr.mono (by decide : 1 ≤ 1)) tk) n_lap (di_var (pv 0))))))))) dss_nil)
    (dss_one (ds_ret (de_and (DE.frz (x_eq hr (di_var (pv 1)) (DI.pk (di_gstr (by rfl) (He.str_ok v.X v.G (v.c.fact 71 (f := .he (.str "LINE" "line")))))))) (de_one (d_chain op_le op_lt od_B od_B di_int (di_var (pv 2)) (DE.frz (b_abs (by rfl) (u_abs v) (db_one (DI.pk (di_fld (F_own_drift v) (dp_var (pv 0)))))))))))))
def m_Cycle_has_address : Fm := mir 4 4 g_Cycle_has_address
theorem o_Cycle_has_address (v : Ev K mg base) : DefOk (MM K) P w K mg base 2 "has_address" "Cycle.has_address" (inClass (top 37) 7) [] (He.ma K (He.ga K "Cycle") "has_address") ["self", "kind", "track", "index"] m_Cycle_has_address := by
  obtain ⟨fd, F⟩ := v.c.def_ 31 (d := d_Cycle_has_address) rfl
  exact ⟨fd, F, funD_mir (M := MM K) F S_Cycle_has_address (by decide) (fun cdv A outer s H E hr tk hp => b_Cycle_has_address v cdv A outer s H E hr tk hp)⟩
theorem f_Cycle_has_address (v : Ev K mg base) : TS.FnR P w K mg base (L2.CX P w) 2 (He.ma K (He.ga K "Cycle") "has_address") (spD (MM K) m_Cycle_has_address) := by
  obtain ⟨fd, F, O⟩ := o_Cycle_has_address (P := P) (w := w) v
  exact fnR_raw (M := MM K) O (F.bindsN (ps := ["self", "kind", "track", "index"]) fun _ _ _ _ _ _ us hl => match us, hl with | [_, _, _, _], _ => rfl)
def tab_has_address : Nat → Option Fm := fun n => match n with
  | 2 => some m_Cycle_has_address
  | _ => none
theorem T_has_address (v : Ev K mg base) : ∀ n f, tab_has_address n = some f → ∃ C g, (MM K).G n = some C ∧ Cls K C ∧ Meth K C "has_address" g ∧ TS.FnR P w K mg base (L2.CX P w) 2 g (spD (MM K) f) := by
  intro n f h
  unfold tab_has_address at h
  split at h
  · cases h
    exact ⟨_, _, rfl, He.cls_ok (v.c.fact 24 (f := .he (.cls "Cycle"))), He.meth_ok (v.c.fact 72 (f := .he (.meth "Cycle" "has_address"))), (f_Cycle_has_address v).mono (by decide)⟩
  · cases h
theorem n_has_address : ∀ n f, tab_has_address n = some f → (("has_address" : Str) ∉ (MM K).nm n) := by
  intro n f h
  unfold tab_has_address at h
  split at h
  · show ("has_address" : Str) ∉ (["own_number", "own_remainders", "own_period", "own_sums", "own_drift"] : List Str)
    decide +kernel
  · cases h
abbrev g_Tracks_is_address_1a_1 : FS := (sRet (toE (kD (.bl false))))
abbrev g_Tracks_is_address_1 : FS := (sIf (fOr (fNot (fTst (toE (fIsi is_tuple (vP 1))))) (fOr (fTst (fBin gNe (frz (fCal gLen (aOne (vP 1)))) (kD (.int 4)))) (fNot (fTst (fCal gAll (aOne (frz (fLc (stName 2) [2] (itTup (frz (fSl (vI 1) (oSome (kD (.int 1))) oNone))) tTrue (frz (fOwn m_is_integer (aCons (vI 2) aNil))))))))))) g_Tracks_is_address_1a_1 sNil)
abbrev g_Tracks_is_address_2a_1 : FS := (sRet (toE (kD (.bl false))))
abbrev g_Tracks_is_address_2 : FS := (sIf (fNot (fTst (fChain gLe gLt (kD (.int 0)) (frz (fBin gIx (vI 1) (kD (.int 1)))) (frz (fCal gLen (aOne (fFld ix_own_cycles (vP 0)))))))) g_Tracks_is_address_2a_1 sNil)
abbrev g_Tracks_is_address_3 : FS := (sRet (fMeth tab_has_address (frz (fBin gIx (fFld ix_own_cycles (vP 0)) (frz (fBin gIx (vI 1) (kD (.int 1)))))) (aCons (frz (fBin gIx (vI 1) (kD (.int 0)))) (aCons (frz (fBin gIx (vI 1) (kD (.int 2)))) (aCons (frz (fBin gIx (vI 1) (kD (.int 3)))) aNil)))))
def g_Tracks_is_address : FS := (sSeq g_Tracks_is_address_1 (sSeq g_Tracks_is_address_2 g_Tracks_is_address_3))
theorem S_Tracks_is_address : FnScope ["self", "value", "part"] ["self", "value"] (defScope (inClass (top 38) 6)) := ⟨rfl, rfl, rfl, by decide +kernel, rfl, by decide +kernel, by decide +kernel⟩
theorem b_Tracks_is_address (v : Ev K mg base) : BodyOk (MM K) P w K mg base 2 "Tracks.is_address" (inClass (top 38) 6) (He.ma K (He.ga K "Tracks") "is_address") ["self", "value", "part"] g_Tracks_is_address :=
  fun cdv A outer s H E hr tk hp => (dss_cons (ds_if (DW.pt (dw_or (dt_not (dt_val (DI.toE (b_isi (by rfl) (u_isinstance v) (dp_var (pv 1)) (k_ty bt_tuple (by rfl) (u_tuple v)) (ClsV.ty "tuple") is_tuple_ok)))) (dw_or (t_ne hr (DE.frz (b_len (by rfl) (u_len v) (db_one (dp_var (pv 1))))) (DI.pk di_int)) (dw_or1 (dt_not (dt_val (b_all (by rfl) (by rfl) (u_all v) (db_one (DE.pk (de_lc (own := [("part", 2)]) (by rfl) (by rfl) S_Tracks_is_address.nd (dit_tup (DE.frz (de_sl (di_var (pv 1)) (do_some di_int) do_none))) (blkOk_by (by kernel_rfl)) (st_name 2) (fun _ _ _ _ _ => pg_name S_Tracks_is_address.nd (by rfl) (by first | exact Or.inl rfl | exact Or.inr rfl)) (fun _ _ _ _ _ => pts_no) (fun _ _ _ _ _ => (DE.frz (d_own (fun h => pe_own ((f_is_integer v).mono (by decide)) hr TS.takes0 (by rfl) (u_is_integer v) (kp_is_integer v) h) (da_cons (di_var (pv 2)) da_nil)))))))))))))) (dss_one (ds_ret (DI.toE di_bl))) dss_nil)
    (dss_cons (ds_if (dt_not (dt_chain op_le op_lt od_B od_B di_int (DE.frz (x_ix hr (di_var (pv 1)) (DI.pk di_int))) (DE.frz (b_len (by rfl) (u_len v) (db_one (DI.pk (di_fld (F_own_cycles v) (dp_var (pv 0))))))))) (dss_one (ds_ret (DI.toE di_bl))) dss_nil)
    (dss_one (ds_ret (d_meth (fun h h' => pe_methD h (methOk_of (T_has_address v)) (hr.mono (by decide : 2 ≤ 2)) tk h') n_has_address (DE.frz (x_ix hr (di_fld (F_own_cycles v) (dp_var (pv 0))) (DE.pk (x_ix hr (di_var (pv 1)) (DI.pk di_int))))) (da_cons (DE.frz (x_ix hr (di_var (pv 1)) (DI.pk di_int))) (da_cons (DE.frz (x_ix hr (di_var (pv 1)) (DI.pk di_int))) (da_cons (DE.frz (x_ix hr (di_var (pv 1)) (DI.pk di_int))) da_nil))))))))
def m_Tracks_is_address : Fm := mir 3 2 g_Tracks_is_address
theorem o_Tracks_is_address (v : Ev K mg base) : DefOk (MM K) P w K mg base 3 "is_address" "Tracks.is_address" (inClass (top 38) 6) [] (He.ma K (He.ga K "Tracks") "is_address") ["self", "value"] m_Tracks_is_address := by
  obtain ⟨fd, F⟩ := v.c.def_ 32 (d := d_Tracks_is_address) rfl
  exact ⟨fd, F, funD_mir (M := MM K) F S_Tracks_is_address (by decide) (fun cdv A outer s H E hr tk hp => b_Tracks_is_address v cdv A outer s H E hr tk hp)⟩
theorem f_Tracks_is_address (v : Ev K mg base) : TS.FnR P w K mg base (L2.CX P w) 3 (He.ma K (He.ga K "Tracks") "is_address") (spD (MM K) m_Tracks_is_address) := by
  obtain ⟨fd, F, O⟩ := o_Tracks_is_address (P := P) (w := w) v
  exact fnR_raw (M := MM K) O (F.bindsN (ps := ["self", "value"]) fun _ _ _ _ _ _ us hl => match us, hl with | [_, _], _ => rfl)
def tab_is_address : Nat → Option Fm := fun n => match n with
  | 3 => some m_Tracks_is_address
  | _ => none
theorem T_is_address (v : Ev K mg base) : ∀ n f, tab_is_address n = some f → ∃ C g, (MM K).G n = some C ∧ Cls K C ∧ Meth K C "is_address" g ∧ TS.FnR P w K mg base (L2.CX P w) 3 g (spD (MM K) f) := by
  intro n f h
  unfold tab_is_address at h
  split at h
  · cases h
    exact ⟨_, _, rfl, He.cls_ok (v.c.fact 19 (f := .he (.cls "Tracks"))), He.meth_ok (v.c.fact 73 (f := .he (.meth "Tracks" "is_address"))), (f_Tracks_is_address v).mono (by decide)⟩
  · cases h
theorem n_is_address : ∀ n f, tab_is_address n = some f → (("is_address" : Str) ∉ (MM K).nm n) := by
  intro n f h
  unfold tab_is_address at h
  split at h
  · show ("is_address" : Str) ∉ (["own_period", "own_cycles", "own_spots", "own_line_cycles", "own_round_cycles", "own_ahead"] : List Str)
    decide +kernel
  · cases h
abbrev g_Cycle_place_at_1 : FS := (sAsg (fCal gDivmod (aCons (vI 2) (aCons (frz (fMeth tab_lap (vI 0) aNil)) aNil))) (tTup 2 (tsCons (tName 3) (tsCons (tName 4) tsNil))))
abbrev g_Cycle_place_at_2 : FS := (sRet (fBin gAdd (frz (fBin gAdd (frz (fBin gIx (fFld ix_own_remainders (vP 0)) (kD (.int 0)))) (frz (fBin gIx (fFld ix_own_sums (vP 0)) (vP 4))))) (frz (fBin gMul (fFld ix_own_period (vP 0)) (frz (fBin gAdd (vI 1) (frz (fBin gMul (fFld ix_own_drift (vP 0)) (vP 3)))))))))
def g_Cycle_place_at : FS := (sSeq g_Cycle_place_at_1 g_Cycle_place_at_2)
theorem S_Cycle_place_at : FnScope ["self", "track", "index", "turns", "here"] ["self", "track", "index"] (defScope (inClass (top 37) 5)) := ⟨rfl, rfl, rfl, by decide +kernel, rfl, by decide +kernel, by decide +kernel⟩
theorem b_Cycle_place_at (v : Ev K mg base) : BodyOk (MM K) P w K mg base 1 "Cycle.place_at" (inClass (top 37) 5) (He.ma K (He.ga K "Cycle") "place_at") ["self", "track", "index", "turns", "here"] g_Cycle_place_at :=
  fun cdv A outer s H E hr tk hp => (dss_cons (ds_asg (b_divmod (by rfl) (u_divmod v) (DA.b (da_cons (di_var (pv 2)) (da_cons (DE.frz (d_meth0 (fun h => pe_methD0 h (methOk_of (T_lap v)) (hr.mono (by decide : 1 ≤ 1)) tk) n_lap (di_var (pv 0)))) da_nil)))) (dg_tup (by rfl) (dgs_cons (dg_name (pg_name S_Cycle_place_at.nd (by rfl) (by first | exact Or.inl rfl | exact Or.inr rfl))) (dgs_cons (dg_name (pg_name S_Cycle_place_at.nd (by rfl) (by first | exact Or.inl rfl | exact Or.inr rfl))) dgs_nil))) (tgt_tup (tgs_cons (tgt_name 3) (tgs_cons (tgt_name 4) tgs_nil))))
    (dss_one (ds_ret (x_add (DE.frz (x_add (DE.frz (x_ix hr (di_fld (F_own_remainders v) (dp_var (pv 0))) (DI.pk di_int))) (DE.pk (x_ix hr (di_fld (F_own_sums v) (dp_var (pv 0))) (dp_var (pv 4)))))) (DE.pk (x_mul (di_fld (F_own_period v) (dp_var (pv 0))) (DE.pk (x_add (di_var (pv 1)) (DE.pk (x_mul (di_fld (F_own_drift v) (dp_var (pv 0))) (dp_var (pv 3))))))))))))
def m_Cycle_place_at : Fm := mir 5 3 g_Cycle_place_at
theorem o_Cycle_place_at (v : Ev K mg base) : DefOk (MM K) P w K mg base 2 "place_at" "Cycle.place_at" (inClass (top 37) 5) [] (He.ma K (He.ga K "Cycle") "place_at") ["self", "track", "index"] m_Cycle_place_at := by
  obtain ⟨fd, F⟩ := v.c.def_ 33 (d := d_Cycle_place_at) rfl
  exact ⟨fd, F, funD_mir (M := MM K) F S_Cycle_place_at (by decide) (fun cdv A outer s H E hr tk hp => b_Cycle_place_at v cdv A outer s H E hr tk hp)⟩
theorem f_Cycle_place_at (v : Ev K mg base) : TS.FnR P w K mg base (L2.CX P w) 2 (He.ma K (He.ga K "Cycle") "place_at") (spD (MM K) m_Cycle_place_at) := by
  obtain ⟨fd, F, O⟩ := o_Cycle_place_at (P := P) (w := w) v
  exact fnR_raw (M := MM K) O (F.bindsN (ps := ["self", "track", "index"]) fun _ _ _ _ _ _ us hl => match us, hl with | [_, _, _], _ => rfl)
def tab_place_at : Nat → Option Fm := fun n => match n with
  | 2 => some m_Cycle_place_at
  | _ => none
theorem T_place_at (v : Ev K mg base) : ∀ n f, tab_place_at n = some f → ∃ C g, (MM K).G n = some C ∧ Cls K C ∧ Meth K C "place_at" g ∧ TS.FnR P w K mg base (L2.CX P w) 2 g (spD (MM K) f) := by
  intro n f h
  unfold tab_place_at at h
  split at h
  · cases h
    exact ⟨_, _, rfl, He.cls_ok (v.c.fact 24 (f := .he (.cls "Cycle"))), He.meth_ok (v.c.fact 74 (f := .he (.meth "Cycle" "place_at"))), (f_Cycle_place_at v).mono (by decide)⟩
  · cases h
theorem n_place_at : ∀ n f, tab_place_at n = some f → (("place_at" : Str) ∉ (MM K).nm n) := by
  intro n f h
  unfold tab_place_at at h
  split at h
  · show ("place_at" : Str) ∉ (["own_number", "own_remainders", "own_period", "own_sums", "own_drift"] : List Str)
    decide +kernel
  · cases h
abbrev g_Tracks_place_1a_1 : FS := sNev
abbrev g_Tracks_place_1 : FS := (sIf (fNot (fTst (fMeth tab_is_address (vI 0) (aCons (vI 1) aNil)))) g_Tracks_place_1a_1 sNil)
abbrev g_Tracks_place_2 : FS := (sRet (fMeth tab_place_at (frz (fBin gIx (fFld ix_own_cycles (vP 0)) (frz (fBin gIx (vI 1) (kD (.int 1)))))) (aCons (frz (fBin gIx (vI 1) (kD (.int 2)))) (aCons (frz (fBin gIx (vI 1) (kD (.int 3)))) aNil))))
def g_Tracks_place : FS := (sSeq g_Tracks_place_1 g_Tracks_place_2)
theorem S_Tracks_place : FnScope ["self", "address"] ["self", "address"] (defScope (inClass (top 38) 7)) := ⟨rfl, rfl, rfl, by decide +kernel, rfl, by decide +kernel, by decide +kernel⟩
theorem b_Tracks_place (v : Ev K mg base) : BodyOk (MM K) P w K mg base 3 "Tracks.place" (inClass (top 38) 7) (He.ma K (He.ga K "Tracks") "place") ["self", "address"] g_Tracks_place :=
  fun cdv A outer s H E hr tk hp => (dss_cons (ds_if (dt_not (dt_val (d_meth (fun h h' => pe_methD h (methOk_of (T_is_address v)) (hr.mono (by decide : 3 ≤ 3)) tk h') n_is_address (di_var (pv 0)) (da_cons (di_var (pv 1)) da_nil)))) (dss_one ds_never) dss_nil)
    (dss_one (ds_ret (d_meth (fun h h' => pe_methD h (methOk_of (T_place_at v)) (hr.mono (by decide : 2 ≤ 3)) tk h') n_place_at (DE.frz (x_ix hr (di_fld (F_own_cycles v) (dp_var (pv 0))) (DE.pk (x_ix hr (di_var (pv 1)) (DI.pk di_int))))) (da_cons (DE.frz (x_ix hr (di_var (pv 1)) (DI.pk di_int))) (da_cons (DE.frz (x_ix hr (di_var (pv 1)) (DI.pk di_int))) da_nil))))))
def m_Tracks_place : Fm := mir 2 2 g_Tracks_place
theorem o_Tracks_place (v : Ev K mg base) : DefOk (MM K) P w K mg base 4 "place" "Tracks.place" (inClass (top 38) 7) [] (He.ma K (He.ga K "Tracks") "place") ["self", "address"] m_Tracks_place := by
  obtain ⟨fd, F⟩ := v.c.def_ 34 (d := d_Tracks_place) rfl
  exact ⟨fd, F, funD_mir (M := MM K) F S_Tracks_place (by decide) (fun cdv A outer s H E hr tk hp => b_Tracks_place v cdv A outer s H E hr tk hp)⟩
theorem f_Tracks_place (v : Ev K mg base) : TS.FnR P w K mg base (L2.CX P w) 4 (He.ma K (He.ga K "Tracks") "place") (spD (MM K) m_Tracks_place) := by
  obtain ⟨fd, F, O⟩ := o_Tracks_place (P := P) (w := w) v
  exact fnR_raw (M := MM K) O (F.bindsN (ps := ["self", "address"]) fun _ _ _ _ _ _ us hl => match us, hl with | [_, _], _ => rfl)
def tab_place : Nat → Option Fm := fun n => match n with
  | 3 => some m_Tracks_place
  | _ => none
theorem T_place (v : Ev K mg base) : ∀ n f, tab_place n = some f → ∃ C g, (MM K).G n = some C ∧ Cls K C ∧ Meth K C "place" g ∧ TS.FnR P w K mg base (L2.CX P w) 4 g (spD (MM K) f) := by
  intro n f h
  unfold tab_place at h
  split at h
  · cases h
    exact ⟨_, _, rfl, He.cls_ok (v.c.fact 19 (f := .he (.cls "Tracks"))), He.meth_ok (v.c.fact 75 (f := .he (.meth "Tracks" "place"))), (f_Tracks_place v).mono (by decide)⟩
  · cases h
theorem n_place : ∀ n f, tab_place n = some f → (("place" : Str) ∉ (MM K).nm n) := by
  intro n f h
  unfold tab_place at h
  split at h
  · show ("place" : Str) ∉ (["own_period", "own_cycles", "own_spots", "own_line_cycles", "own_round_cycles", "own_ahead"] : List Str)
    decide +kernel
  · cases h
abbrev g_Cycle_address_of_1 : FS := (sAsg (fBin gFdiv (frz (fBin gSub (frz (fBin gSub (vI 1) (frz (fBin gIx (fFld ix_own_remainders (vP 0)) (kD (.int 0)))))) (frz (fBin gIx (fFld ix_own_sums (vP 0)) (vP 2))))) (fFld ix_own_period (vP 0))) (tName 3))
abbrev g_Cycle_address_of_2a_1 : FS := (sRet (toE (fTup (aCons (kD (.str "round")) (aCons (fFld ix_own_number (vP 0)) (aCons (vI 3) (aCons (vI 2) aNil)))))))
abbrev g_Cycle_address_of_2 : FS := (sIf (fTst (fBin gEq (fFld ix_own_drift (vP 0)) (kD (.int 0)))) g_Cycle_address_of_2a_1 sNil)
abbrev g_Cycle_address_of_3 : FS := (sAsg (fBin gMod (vI 3) (frz (fCal gAbs (aOne (fFld ix_own_drift (vP 0)))))) (tName 4))
abbrev g_Cycle_address_of_4 : FS := (sRet (toE (fTup (aCons (kD (.str "line")) (aCons (fFld ix_own_number (vP 0)) (aCons (vI 4) (aCons (frz (fBin gAdd (vI 2) (frz (fBin gMul (frz (fMeth tab_lap (vI 0) aNil)) (frz (fBin gFdiv (frz (fBin gSub (vI 3) (vP 4))) (fFld ix_own_drift (vP 0)))))))) aNil)))))))
def g_Cycle_address_of : FS := (sSeq g_Cycle_address_of_1 (sSeq g_Cycle_address_of_2 (sSeq g_Cycle_address_of_3 g_Cycle_address_of_4)))
theorem S_Cycle_address_of : FnScope ["self", "x", "index", "block", "line"] ["self", "x", "index"] (defScope (inClass (top 37) 6)) := ⟨rfl, rfl, rfl, by decide +kernel, rfl, by decide +kernel, by decide +kernel⟩
theorem b_Cycle_address_of (v : Ev K mg base) : BodyOk (MM K) P w K mg base 1 "Cycle.address_of" (inClass (top 37) 6) (He.ma K (He.ga K "Cycle") "address_of") ["self", "x", "index", "block", "line"] g_Cycle_address_of :=
  fun cdv A outer s H E hr tk hp => (dss_cons (ds_set (i := 3) S_Cycle_address_of.nd (by rfl) (by first | exact Or.inl rfl | exact Or.inr rfl) (x_fdiv (DE.frz (x_sub (DE.frz (x_sub (di_var (pv 1)) (DE.pk (x_ix hr (di_fld (F_own_remainders v) (dp_var (pv 0))) (DI.pk di_int))))) (DE.pk (x_ix hr (di_fld (F_own_sums v) (dp_var (pv 0))) (dp_var (pv 2)))))) (DI.pk (di_fld (F_own_period v) (dp_var (pv 0))))))
    (dss_cons (ds_if (t_eq hr (di_fld (F_own_drift v) (dp_var (pv 0))) (DI.pk di_int)) (dss_one (ds_ret (DI.toE (di_tup (da_cons (di_gstr (by rfl) (He.str_ok v.X v.G (v.c.fact 70 (f := .he (.str "ROUND" "round"))))) (da_cons (di_fld (F_own_number v) (dp_var (pv 0))) (da_cons (di_var (pv 3)) (da_cons (di_var (pv 2)) da_nil)))))))) dss_nil)
    (dss_cons (ds_set (i := 4) S_Cycle_address_of.nd (by rfl) (by first | exact Or.inl rfl | exact Or.inr rfl) (x_mod (di_var (pv 3)) (DE.pk (b_abs (by rfl) (u_abs v) (db_one (DI.pk (di_fld (F_own_drift v) (dp_var (pv 0)))))))))
    (dss_one (ds_ret (DI.toE (di_tup (da_cons (di_gstr (by rfl) (He.str_ok v.X v.G (v.c.fact 71 (f := .he (.str "LINE" "line"))))) (da_cons (di_fld (F_own_number v) (dp_var (pv 0))) (da_cons (di_var (pv 4)) (da_cons (DE.frz (x_add (di_var (pv 2)) (DE.pk (x_mul (DE.frz (d_meth0 (fun h => pe_methD0 h (methOk_of (T_lap v)) (hr.mono (by decide : 1 ≤ 1)) tk) n_lap (di_var (pv 0)))) (DE.pk (x_fdiv (DE.frz (x_sub (di_var (pv 3)) (dp_var (pv 4)))) (DI.pk (di_fld (F_own_drift v) (dp_var (pv 0)))))))))) da_nil)))))))))))
def m_Cycle_address_of : Fm := mir 5 3 g_Cycle_address_of
theorem o_Cycle_address_of (v : Ev K mg base) : DefOk (MM K) P w K mg base 2 "address_of" "Cycle.address_of" (inClass (top 37) 6) [] (He.ma K (He.ga K "Cycle") "address_of") ["self", "x", "index"] m_Cycle_address_of := by
  obtain ⟨fd, F⟩ := v.c.def_ 35 (d := d_Cycle_address_of) rfl
  exact ⟨fd, F, funD_mir (M := MM K) F S_Cycle_address_of (by decide) (fun cdv A outer s H E hr tk hp => b_Cycle_address_of v cdv A outer s H E hr tk hp)⟩
theorem f_Cycle_address_of (v : Ev K mg base) : TS.FnR P w K mg base (L2.CX P w) 2 (He.ma K (He.ga K "Cycle") "address_of") (spD (MM K) m_Cycle_address_of) := by
  obtain ⟨fd, F, O⟩ := o_Cycle_address_of (P := P) (w := w) v
  exact fnR_raw (M := MM K) O (F.bindsN (ps := ["self", "x", "index"]) fun _ _ _ _ _ _ us hl => match us, hl with | [_, _, _], _ => rfl)
def tab_address_of : Nat → Option Fm := fun n => match n with
  | 2 => some m_Cycle_address_of
  | _ => none
theorem T_address_of (v : Ev K mg base) : ∀ n f, tab_address_of n = some f → ∃ C g, (MM K).G n = some C ∧ Cls K C ∧ Meth K C "address_of" g ∧ TS.FnR P w K mg base (L2.CX P w) 2 g (spD (MM K) f) := by
  intro n f h
  unfold tab_address_of at h
  split at h
  · cases h
    exact ⟨_, _, rfl, He.cls_ok (v.c.fact 24 (f := .he (.cls "Cycle"))), He.meth_ok (v.c.fact 76 (f := .he (.meth "Cycle" "address_of"))), (f_Cycle_address_of v).mono (by decide)⟩
  · cases h
theorem n_address_of : ∀ n f, tab_address_of n = some f → (("address_of" : Str) ∉ (MM K).nm n) := by
  intro n f h
  unfold tab_address_of at h
  split at h
  · show ("address_of" : Str) ∉ (["own_number", "own_remainders", "own_period", "own_sums", "own_drift"] : List Str)
    decide +kernel
  · cases h
abbrev g_Tracks_address_1 : FS := (sExpr (fOwn m_require_integer_d1 (aCons (vI 1) aNil)))
abbrev g_Tracks_address_2 : FS := (sAsg (fBin gIx (fFld ix_own_spots (vP 0)) (frz (fBin gMod (vI 1) (fFld ix_own_period (vP 0))))) (tTup 2 (tsCons (tName 2) (tsCons (tName 3) tsNil))))
abbrev g_Tracks_address_3 : FS := (sRet (fMeth tab_address_of (vI 2) (aCons (vI 1) (aCons (vI 3) aNil))))
def g_Tracks_address : FS := (sSeq g_Tracks_address_1 (sSeq g_Tracks_address_2 g_Tracks_address_3))
theorem S_Tracks_address : FnScope ["self", "x", "cycle", "index"] ["self", "x"] (defScope (inClass (top 38) 5)) := ⟨rfl, rfl, rfl, by decide +kernel, rfl, by decide +kernel, by decide +kernel⟩
theorem b_Tracks_address (v : Ev K mg base) : BodyOk (MM K) P w K mg base 2 "Tracks.address" (inClass (top 38) 5) (He.ma K (He.ga K "Tracks") "address") ["self", "x", "cycle", "index"] g_Tracks_address :=
  fun cdv A outer s H E hr tk hp => (dss_cons (ds_expr (d_own (fun h => pe_own ((f_require_integer_d1 v).mono (by decide)) hr tk (by rfl) (u_require_integer v) (kp_require_integer v) h) (da_cons (di_var (pv 1)) da_nil)))
    (dss_cons (ds_asg (x_ix hr (di_fld (F_own_spots v) (dp_var (pv 0))) (DE.pk (x_mod (di_var (pv 1)) (DI.pk (di_fld (F_own_period v) (dp_var (pv 0))))))) (dg_tup (by rfl) (dgs_cons (dg_name (pg_name S_Tracks_address.nd (by rfl) (by first | exact Or.inl rfl | exact Or.inr rfl))) (dgs_cons (dg_name (pg_name S_Tracks_address.nd (by rfl) (by first | exact Or.inl rfl | exact Or.inr rfl))) dgs_nil))) (tgt_tup (tgs_cons (tgt_name 2) (tgs_cons (tgt_name 3) tgs_nil))))
    (dss_one (ds_ret (d_meth (fun h h' => pe_methD h (methOk_of (T_address_of v)) (hr.mono (by decide : 2 ≤ 2)) tk h') n_address_of (di_var (pv 2)) (da_cons (di_var (pv 1)) (da_cons (di_var (pv 3)) da_nil)))))))
def m_Tracks_address : Fm := mir 4 2 g_Tracks_address
theorem o_Tracks_address (v : Ev K mg base) : DefOk (MM K) P w K mg base 3 "address" "Tracks.address" (inClass (top 38) 5) [] (He.ma K (He.ga K "Tracks") "address") ["self", "x"] m_Tracks_address := by
  obtain ⟨fd, F⟩ := v.c.def_ 36 (d := d_Tracks_address) rfl
  exact ⟨fd, F, funD_mir (M := MM K) F S_Tracks_address (by decide) (fun cdv A outer s H E hr tk hp => b_Tracks_address v cdv A outer s H E hr tk hp)⟩
theorem f_Tracks_address (v : Ev K mg base) : TS.FnR P w K mg base (L2.CX P w) 3 (He.ma K (He.ga K "Tracks") "address") (spD (MM K) m_Tracks_address) := by
  obtain ⟨fd, F, O⟩ := o_Tracks_address (P := P) (w := w) v
  exact fnR_raw (M := MM K) O (F.bindsN (ps := ["self", "x"]) fun _ _ _ _ _ _ us hl => match us, hl with | [_, _], _ => rfl)
def tab_address : Nat → Option Fm := fun n => match n with
  | 3 => some m_Tracks_address
  | _ => none
theorem T_address (v : Ev K mg base) : ∀ n f, tab_address n = some f → ∃ C g, (MM K).G n = some C ∧ Cls K C ∧ Meth K C "address" g ∧ TS.FnR P w K mg base (L2.CX P w) 3 g (spD (MM K) f) := by
  intro n f h
  unfold tab_address at h
  split at h
  · cases h
    exact ⟨_, _, rfl, He.cls_ok (v.c.fact 19 (f := .he (.cls "Tracks"))), He.meth_ok (v.c.fact 77 (f := .he (.meth "Tracks" "address"))), (f_Tracks_address v).mono (by decide)⟩
  · cases h
theorem n_address : ∀ n f, tab_address n = some f → (("address" : Str) ∉ (MM K).nm n) := by
  intro n f h
  unfold tab_address at h
  split at h
  · show ("address" : Str) ∉ (["own_period", "own_cycles", "own_spots", "own_line_cycles", "own_round_cycles", "own_ahead"] : List Str)
    decide +kernel
  · cases h
theorem fk_Tracks_address_1_x (v : Ev K mg base) : FnK P w K mg base (L2.CX P w) 3 (He.ma K (He.ga K "Tracks") "address") 1 ["x"] (spD (MM K) m_Tracks_address) := by
  obtain ⟨fd, F, O⟩ := o_Tracks_address (P := P) (w := w) v
  exact fnK_app (M := MM K) O (kb_app F fun _ _ _ _ _ _ us ws h1 h2 => match us, ws, h1, h2 with | [_], [_], _, _ => rfl)
theorem TK_address_0_x (v : Ev K mg base) : ∀ n f, tab_address n = some f → ∃ C g, (MM K).G n = some C ∧ Cls K C ∧ Meth K C "address" g ∧ FnK P w K mg base (L2.CX P w) 3 g 1 ["x"] (spD (MM K) f) := by
  intro n f h
  unfold tab_address at h
  split at h
  · cases h
    exact ⟨_, _, rfl, He.cls_ok (v.c.fact 19 (f := .he (.cls "Tracks"))), He.meth_ok (v.c.fact 77 (f := .he (.meth "Tracks" "address"))), (fk_Tracks_address_1_x v).mono (by decide)⟩
  · cases h
abbrev g__law_below_1 : FS := (sAsg (toE (kD (.int 0))) (tName 2))
abbrev g__law_below_2_1 : FS := (sAsg (fBin gAdd (frz (fBin gMul (vI 2) (frz (fBin gPow (kD (.int 10)) (kD (.int 7)))))) (frz (fOwnIo m__law_draw 0 (aCons (frz (fBin gPow (kD (.int 10)) (kD (.int 7)))) aNil)))) (tName 2))
abbrev g__law_below_2B : FS := g__law_below_2_1
abbrev g__law_below_2 : FS := (sFor (itRg1 (frz (fBin gAdd (kD (.int 1)) (frz (fBin gFdiv (frz (fCal gLen (aOne (frz (fCal gStr (aOne (vP 1))))))) (kD (.int 7))))))) (tName 3) g__law_below_2B)
abbrev g__law_below_3 : FS := (sRet (fBin gMod (frz (fCal gInt (aOne (vP 2)))) (vP 1)))
def g__law_below : FS := (sSeq g__law_below_1 (sSeq g__law_below_2 g__law_below_3))
theorem S__law_below : FnScope ["_law_pot_here", "_law_limit", "_law_number", "_law_turn"] ["_law_pot_here", "_law_limit"] (defScope (top 52)) := ⟨rfl, rfl, rfl, by decide +kernel, rfl, by decide +kernel, by decide +kernel⟩
theorem kp__law_below (v : Ev K mg base) : PySem.W.keepIn K (.ref (He.ga K "_law_below")) = true := (v.c.def_ 37 (d := d__law_below) rfl).elim fun _ F => F.kp
theorem b__law_below (v : Ev K mg base) : BodyOk (MM K) P w K mg base 1 "_law_below" (top 52) (He.ga K "_law_below") ["_law_pot_here", "_law_limit", "_law_number", "_law_turn"] g__law_below :=
  fun cdv A outer s H E hr tk hp => (dss_cons (ds_set (i := 2) S__law_below.nd (by rfl) (by first | exact Or.inl rfl | exact Or.inr rfl) (DI.toE di_int))
    (dss_cons (ds_for hp (by rfl) (dit_rg1 (by rfl) (u_range v) (DE.frz (x_add di_int (DE.pk (x_fdiv (DE.frz (b_len (by rfl) (u_len v) (db_one (DE.pk (b_strD hr (by rfl) (u_str v) (db_one (dp_var (pv 1)))))))) (DI.pk di_int)))))) (dg_name (pg_name S__law_below.nd (by rfl) (by first | exact Or.inl rfl | exact Or.inr rfl))) (tgt_name 3) (dss_one (ds_set (i := 2) S__law_below.nd (by rfl) (by first | exact Or.inl rfl | exact Or.inr rfl) (x_add (DE.frz (x_mul (di_var (pv 2)) (DE.pk (x_pow di_int (DI.pk di_int))))) (DE.pk (d_ownIo (fun h => pe_own ((f__law_draw v).mono (by decide)) hr tk (by rfl) (u__law_draw v) (kp__law_draw v) h) (pv 0) (da_cons (DE.frz (x_pow di_int (DI.pk di_int))) da_nil)))))))
    (dss_one (ds_ret (x_mod (DE.frz (b_int (by rfl) (u_int v) (db_one (dp_var (pv 2))))) (dp_var (pv 1)))))))
def m__law_below : Fm := mir 4 2 g__law_below
theorem o__law_below (v : Ev K mg base) : DefOk (MM K) P w K mg base 2 "_law_below" "_law_below" (top 52) [] (He.ga K "_law_below") ["_law_pot_here", "_law_limit"] m__law_below := by
  obtain ⟨fd, F⟩ := v.c.def_ 37 (d := d__law_below) rfl
  exact ⟨fd, F, funD_mir (M := MM K) F S__law_below (by decide) (fun cdv A outer s H E hr tk hp => b__law_below v cdv A outer s H E hr tk hp)⟩
theorem f__law_below (v : Ev K mg base) : TS.FnR P w K mg base (L2.CX P w) 2 (He.ga K "_law_below") (spD (MM K) m__law_below) := by
  obtain ⟨fd, F, O⟩ := o__law_below (P := P) (w := w) v
  exact fnR_raw (M := MM K) O (F.bindsN (ps := ["_law_pot_here", "_law_limit"]) fun _ _ _ _ _ _ us hl => match us, hl with | [_, _], _ => rfl)
abbrev g__law_drawn_address_1 : FS := (sAsg (fOwnIo m__law_draw 0 (aCons (frz (fCal gLen (aOne (vP 1)))) aNil)) (tName 2))
abbrev g__law_drawn_address_2 : FS := (sAsg (fBin gIx (vI 1) (vP 2)) (tTup 3 (tsCons (tName 3) (tsCons (tName 4) (tsCons (tName 5) tsNil)))))
abbrev g__law_drawn_address_3a_1 : FS := (sRet (toE (fTup (aCons (kD (.str "round")) (aCons (vI 2) (aCons (frz (fOwnIo m__law_place 0 aNil)) (aCons (frz (fOwnIo m__law_draw 0 (aCons (frz (fCal gLen (aOne (vP 3)))) aNil))) aNil)))))))
abbrev g__law_drawn_address_3 : FS := (sIf (fTst (fBin gEq (vI 5) (kD (.int 0)))) g__law_drawn_address_3a_1 sNil)
abbrev g__law_drawn_address_4 : FS := (sRet (toE (fTup (aCons (kD (.str "line")) (aCons (vI 2) (aCons (frz (fOwnIo m__law_below 0 (aCons (frz (fCal gAbs (aOne (vP 5)))) aNil))) (aCons (frz (fOwnIo m__law_place 0 aNil)) aNil)))))))
def g__law_drawn_address : FS := (sSeq g__law_drawn_address_1 (sSeq g__law_drawn_address_2 (sSeq g__law_drawn_address_3 g__law_drawn_address_4)))
theorem S__law_drawn_address : FnScope ["_law_pot_here", "_law_cycles_here", "_law_number", "_law_row", "_law_sums", "_law_drift"] ["_law_pot_here", "_law_cycles_here"] (defScope (top 54)) := ⟨rfl, rfl, rfl, by decide +kernel, rfl, by decide +kernel, by decide +kernel⟩
theorem kp__law_drawn_address (v : Ev K mg base) : PySem.W.keepIn K (.ref (He.ga K "_law_drawn_address")) = true := (v.c.def_ 38 (d := d__law_drawn_address) rfl).elim fun _ F => F.kp
theorem b__law_drawn_address (v : Ev K mg base) : BodyOk (MM K) P w K mg base 4 "_law_drawn_address" (top 54) (He.ga K "_law_drawn_address") ["_law_pot_here", "_law_cycles_here", "_law_number", "_law_row", "_law_sums", "_law_drift"] g__law_drawn_address :=
  fun cdv A outer s H E hr tk hp => (dss_cons (ds_set (i := 2) S__law_drawn_address.nd (by rfl) (by first | exact Or.inl rfl | exact Or.inr rfl) (d_ownIo (fun h => pe_own ((f__law_draw v).mono (by decide)) hr tk (by rfl) (u__law_draw v) (kp__law_draw v) h) (pv 0) (da_cons (DE.frz (b_len (by rfl) (u_len v) (db_one (dp_var (pv 1))))) da_nil)))
    (dss_cons (ds_asg (x_ix hr (di_var (pv 1)) (dp_var (pv 2))) (dg_tup (by rfl) (dgs_cons (dg_name (pg_name S__law_drawn_address.nd (by rfl) (by first | exact Or.inl rfl | exact Or.inr rfl))) (dgs_cons (dg_name (pg_name S__law_drawn_address.nd (by rfl) (by first | exact Or.inl rfl | exact Or.inr rfl))) (dgs_cons (dg_name (pg_name S__law_drawn_address.nd (by rfl) (by first | exact Or.inl rfl | exact Or.inr rfl))) dgs_nil)))) (tgt_tup (tgs_cons (tgt_name 3) (tgs_cons (tgt_name 4) (tgs_cons (tgt_name 5) tgs_nil)))))
    (dss_cons (ds_if (t_eq hr (di_var (pv 5)) (DI.pk di_int)) (dss_one (ds_ret (DI.toE (di_tup (da_cons di_str (da_cons (di_var (pv 2)) (da_cons (DE.frz (d_ownIo (fun h => pe_own ((f__law_place v).mono (by decide)) hr tk (by rfl) (u__law_place v) (kp__law_place v) h) (pv 0) da_nil)) (da_cons (DE.frz (d_ownIo (fun h => pe_own ((f__law_draw v).mono (by decide)) hr tk (by rfl) (u__law_draw v) (kp__law_draw v) h) (pv 0) (da_cons (DE.frz (b_len (by rfl) (u_len v) (db_one (dp_var (pv 3))))) da_nil))) da_nil)))))))) dss_nil)
    (dss_one (ds_ret (DI.toE (di_tup (da_cons di_str (da_cons (di_var (pv 2)) (da_cons (DE.frz (d_ownIo (fun h => pe_own ((f__law_below v).mono (by decide)) hr tk (by rfl) (u__law_below v) (kp__law_below v) h) (pv 0) (da_cons (DE.frz (b_abs (by rfl) (u_abs v) (db_one (dp_var (pv 5))))) da_nil))) (da_cons (DE.frz (d_ownIo (fun h => pe_own ((f__law_place v).mono (by decide)) hr tk (by rfl) (u__law_place v) (kp__law_place v) h) (pv 0) da_nil)) da_nil)))))))))))
def m__law_drawn_address : Fm := mir 6 2 g__law_drawn_address
theorem o__law_drawn_address (v : Ev K mg base) : DefOk (MM K) P w K mg base 5 "_law_drawn_address" "_law_drawn_address" (top 54) [] (He.ga K "_law_drawn_address") ["_law_pot_here", "_law_cycles_here"] m__law_drawn_address := by
  obtain ⟨fd, F⟩ := v.c.def_ 38 (d := d__law_drawn_address) rfl
  exact ⟨fd, F, funD_mir (M := MM K) F S__law_drawn_address (by decide) (fun cdv A outer s H E hr tk hp => b__law_drawn_address v cdv A outer s H E hr tk hp)⟩
theorem f__law_drawn_address (v : Ev K mg base) : TS.FnR P w K mg base (L2.CX P w) 5 (He.ga K "_law_drawn_address") (spD (MM K) m__law_drawn_address) := by
  obtain ⟨fd, F, O⟩ := o__law_drawn_address (P := P) (w := w) v
  exact fnR_raw (M := MM K) O (F.bindsN (ps := ["_law_pot_here", "_law_cycles_here"]) fun _ _ _ _ _ _ us hl => match us, hl with | [_, _], _ => rfl)
abbrev g__law_place_at_1 : FS := (sAsg (toE (vI 2)) (tTup 4 (tsCons (tName 5) (tsCons (tName 6) (tsCons (tName 7) (tsCons (tName 8) tsNil))))))
abbrev g__law_place_at_2 : FS := (sAsg (fBin gIx (vI 1) (vP 6)) (tTup 3 (tsCons (tName 9) (tsCons (tName 10) (tsCons (tName 11) tsNil)))))
abbrev g__law_place_at_3 : FS := (sAsg (fBin gFdiv (vI 8) (frz (fCal gLen (aOne (vP 9))))) (tName 3))
abbrev g__law_place_at_4 : FS := (sAsg (fBin gAdd (frz (fBin gIx (vI 9) (kD (.int 0)))) (frz (fBin gIx (vI 10) (frz (fBin gSub (vI 8) (frz (fBin gMul (vI 3) (frz (fCal gLen (aOne (vP 9))))))))))) (tName 4))
abbrev g__law_place_at_5 : FS := (sRet (fBin gAdd (vI 4) (frz (fBin gMul (frz (fCal gLen (aOne (vP 0)))) (frz (fBin gAdd (vI 7) (frz (fBin gMul (vI 11) (vP 3)))))))))
def g__law_place_at : FS := (sSeq g__law_place_at_1 (sSeq g__law_place_at_2 (sSeq g__law_place_at_3 (sSeq g__law_place_at_4 g__law_place_at_5))))
theorem S__law_place_at : FnScope ["_law_table_here", "_law_cycles_here", "_law_told_address", "_law_turns_here", "_law_here", "_law_kind", "_law_number", "_law_track", "_law_index", "_law_row", "_law_sums", "_law_drift"] ["_law_table_here", "_law_cycles_here", "_law_told_address"] (defScope (top 51)) := ⟨rfl, rfl, rfl, by decide +kernel, rfl, by decide +kernel, by decide +kernel⟩
theorem kp__law_place_at (v : Ev K mg base) : PySem.W.keepIn K (.ref (He.ga K "_law_place_at")) = true := (v.c.def_ 39 (d := d__law_place_at) rfl).elim fun _ F => F.kp
theorem b__law_place_at (v : Ev K mg base) : BodyOk (MM K) P w K mg base 0 "_law_place_at" (top 51) (He.ga K "_law_place_at") ["_law_table_here", "_law_cycles_here", "_law_told_address", "_law_turns_here", "_law_here", "_law_kind", "_law_number", "_law_track", "_law_index", "_law_row", "_law_sums", "_law_drift"] g__law_place_at :=
  fun cdv A outer s H E hr tk hp => (dss_cons (ds_asg (DI.toE (di_var (pv 2))) (dg_tup (by rfl) (dgs_cons (dg_name (pg_name S__law_place_at.nd (by rfl) (by first | exact Or.inl rfl | exact Or.inr rfl))) (dgs_cons (dg_name (pg_name S__law_place_at.nd (by rfl) (by first | exact Or.inl rfl | exact Or.inr rfl))) (dgs_cons (dg_name (pg_name S__law_place_at.nd (by rfl) (by first | exact Or.inl rfl | exact Or.inr rfl))) (dgs_cons (dg_name (pg_name S__law_place_at.nd (by rfl) (by first | exact Or.inl rfl | exact Or.inr rfl))) dgs_nil))))) (tgt_tup (tgs_cons (tgt_name 5) (tgs_cons (tgt_name 6) (tgs_cons (tgt_name 7) (tgs_cons (tgt_name 8) tgs_nil))))))
    (dss_cons (ds_asg (x_ix hr (di_var (pv 1)) (dp_var (pv 6))) (dg_tup (by rfl) (dgs_cons (dg_name (pg_name S__law_place_at.nd (by rfl) (by first | exact Or.inl rfl | exact Or.inr rfl))) (dgs_cons (dg_name (pg_name S__law_place_at.nd (by rfl) (by first | exact Or.inl rfl | exact Or.inr rfl))) (dgs_cons (dg_name (pg_name S__law_place_at.nd (by rfl) (by first | exact Or.inl rfl | exact Or.inr rfl))) dgs_nil)))) (tgt_tup (tgs_cons (tgt_name 9) (tgs_cons (tgt_name 10) (tgs_cons (tgt_name 11) tgs_nil)))))
    (dss_cons (ds_set (i := 3) S__law_place_at.nd (by rfl) (by first | exact Or.inl rfl | exact Or.inr rfl) (x_fdiv (di_var (pv 8)) (DE.pk (b_len (by rfl) (u_len v) (db_one (dp_var (pv 9)))))))
    (dss_cons (ds_set (i := 4) S__law_place_at.nd (by rfl) (by first | exact Or.inl rfl | exact Or.inr rfl) (x_add (DE.frz (x_ix hr (di_var (pv 9)) (DI.pk di_int))) (DE.pk (x_ix hr (di_var (pv 10)) (DE.pk (x_sub (di_var (pv 8)) (DE.pk (x_mul (di_var (pv 3)) (DE.pk (b_len (by rfl) (u_len v) (db_one (dp_var (pv 9)))))))))))))
    (dss_one (ds_ret (x_add (di_var (pv 4)) (DE.pk (x_mul (DE.frz (b_len (by rfl) (u_len v) (db_one (dp_var (pv 0))))) (DE.pk (x_add (di_var (pv 7)) (DE.pk (x_mul (di_var (pv 11)) (dp_var (pv 3)))))))))))))))
def m__law_place_at : Fm := mir 12 3 g__law_place_at
theorem o__law_place_at (v : Ev K mg base) : DefOk (MM K) P w K mg base 1 "_law_place_at" "_law_place_at" (top 51) [] (He.ga K "_law_place_at") ["_law_table_here", "_law_cycles_here", "_law_told_address"] m__law_place_at := by
  obtain ⟨fd, F⟩ := v.c.def_ 39 (d := d__law_place_at) rfl
  exact ⟨fd, F, funD_mir (M := MM K) F S__law_place_at (by decide) (fun cdv A outer s H E hr tk hp => b__law_place_at v cdv A outer s H E hr tk hp)⟩
theorem f__law_place_at (v : Ev K mg base) : TS.FnR P w K mg base (L2.CX P w) 1 (He.ga K "_law_place_at") (spD (MM K) m__law_place_at) := by
  obtain ⟨fd, F, O⟩ := o__law_place_at (P := P) (w := w) v
  exact fnR_raw (M := MM K) O (F.bindsN (ps := ["_law_table_here", "_law_cycles_here", "_law_told_address"]) fun _ _ _ _ _ _ us hl => match us, hl with | [_, _, _], _ => rfl)
theorem fk_Tracks_place_1_address (v : Ev K mg base) : FnK P w K mg base (L2.CX P w) 4 (He.ma K (He.ga K "Tracks") "place") 1 ["address"] (spD (MM K) m_Tracks_place) := by
  obtain ⟨fd, F, O⟩ := o_Tracks_place (P := P) (w := w) v
  exact fnK_app (M := MM K) O (kb_app F fun _ _ _ _ _ _ us ws h1 h2 => match us, ws, h1, h2 with | [_], [_], _, _ => rfl)
theorem TK_place_0_address (v : Ev K mg base) : ∀ n f, tab_place n = some f → ∃ C g, (MM K).G n = some C ∧ Cls K C ∧ Meth K C "place" g ∧ FnK P w K mg base (L2.CX P w) 4 g 1 ["address"] (spD (MM K) f) := by
  intro n f h
  unfold tab_place at h
  split at h
  · cases h
    exact ⟨_, _, rfl, He.cls_ok (v.c.fact 19 (f := .he (.cls "Tracks"))), He.meth_ok (v.c.fact 75 (f := .he (.meth "Tracks" "place"))), (fk_Tracks_place_1_address v).mono (by decide)⟩
  · cases h
abbrev g__law_right_1 : FS := (sAsg (fIfE (fTst (fBin gGt (frz (fOwnIo m__law_draw 0 (aCons (kD (.int 9)) aNil))) (kD (.int 0)))) (fBin gAdd (kD (.int 1)) (frz (fOwnIo m__law_draw 0 (aCons (kD (.int 12)) aNil)))) (fBin gAdd (kD (.int 1)) (frz (fOwnIo m__law_draw 0 (aCons (kD (.int 60)) aNil))))) (tName 1))
abbrev g__law_right_2 : FS := (sAsg (fIfE (fTst (fBin gGt (frz (fOwnIo m__law_draw 0 (aCons (kD (.int 3)) aNil))) (kD (.int 0)))) (fBin gAdd (kD (.int 1)) (frz (fOwnIo m__law_draw 0 (aCons (kD (.int 4)) aNil)))) (fOwnIo m__law_great 0 (aCons (frz (fBin gAdd (kD (.int 1)) (frz (fOwnIo m__law_draw 0 (aCons (kD (.int 5)) aNil))))) aNil))) (tName 2))
abbrev g__law_right_3 : FS := (sAsg (fOwn m__law_least (aCons (frz (fOwnIo m__law_table 0 (aCons (vI 1) (aCons (vI 2) aNil)))) aNil)) (tName 3))
abbrev g__law_right_4 : FS := (sPar 5 6 (fOwn m__law_cycles (aCons (vI 3) aNil)) (fMake 3 m_Tracks___init__ (aCons (frz (fMake 0 m_Plan___init__ (aCons (vI 3) aNil))) aNil)))
abbrev g__law_right_5_1 : FS := (sAsg (fOwnIo m__law_place 0 aNil) (tName 7))
abbrev g__law_right_5_2 : FS := (sAsg (fOwn m__law_address (aCons (vI 3) (aCons (vI 5) (aCons (vI 7) aNil)))) (tName 8))
abbrev g__law_right_5_3 : FS := (sAsg (fLst (aCons (frz (fMeth tab_address (vI 6) (aCons (vI 7) aNil))) (aCons (frz (fMethK tab_address 0 1 (vI 6) aNil (aCons (vI 7) aNil))) (aCons (frz (fMeth tab_place (vI 6) (aCons (vI 8) aNil))) (aCons (frz (fMeth tab_place (vI 6) (aCons (frz (fMeth tab_address (vI 6) (aCons (vI 7) aNil))) aNil))) aNil))))) (tName 9))
abbrev g__law_right_5_4a_1 : FS := (sRet (toE (kD (.bl false))))
abbrev g__law_right_5_4 : FS := (sIf (fTst (fBin gNe (fReprT (vI 9)) (fReprT (frz (fLst (aCons (vI 8) (aCons (vI 8) (aCons (vI 7) (aCons (vI 7) aNil))))))))) g__law_right_5_4a_1 sNil)
abbrev g__law_right_5_5 : FS := (sAsg (fOwnIo m__law_drawn_address 0 (aCons (vI 5) aNil)) (tName 10))
abbrev g__law_right_5_6 : FS := (sAsg (fOwn m__law_place_at (aCons (vI 3) (aCons (vI 5) (aCons (vI 10) aNil)))) (tName 11))
abbrev g__law_right_5_7 : FS := (sAsg (fLst (aCons (frz (fMeth tab_place (vI 6) (aCons (vI 10) aNil))) (aCons (frz (fMethK tab_place 0 1 (vI 6) aNil (aCons (vI 10) aNil))) (aCons (frz (fMeth tab_address (vI 6) (aCons (vI 11) aNil))) aNil)))) (tName 9))
abbrev g__law_right_5_8a_1 : FS := (sRet (toE (kD (.bl false))))
abbrev g__law_right_5_8 : FS := (sIf (fTst (fBin gNe (fReprT (vI 9)) (fReprT (frz (fLst (aCons (vI 11) (aCons (vI 11) (aCons (vI 10) aNil)))))))) g__law_right_5_8a_1 sNil)
abbrev g__law_right_5B : FS := (sSeq g__law_right_5_1 (sSeq g__law_right_5_2 (sSeq g__law_right_5_3 (sSeq g__law_right_5_4 (sSeq g__law_right_5_5 (sSeq g__law_right_5_6 (sSeq g__law_right_5_7 g__law_right_5_8)))))))
abbrev g__law_right_5 : FS := (sFor (itRg1 (kD (.int 10))) (tName 4) g__law_right_5B)
abbrev g__law_right_6 : FS := (sRet (toE (kD (.bl true))))
def g__law_right : FS := (sSeq g__law_right_1 (sSeq g__law_right_2 (sSeq g__law_right_3 (sSeq g__law_right_4 (sSeq g__law_right_5 g__law_right_6)))))
theorem S__law_right : FnScope ["_law_pot_here", "_law_many", "_law_factor", "_law_table_here", "_law_turn", "_law_cycles_here", "_law_tracks", "_law_spot", "_law_due", "_law_told", "_law_told_address", "_law_there"] ["_law_pot_here"] (defScope (top 55)) := ⟨rfl, rfl, rfl, by decide +kernel, rfl, by decide +kernel, by decide +kernel⟩
theorem kp__law_right (v : Ev K mg base) : PySem.W.keepIn K (.ref (He.ga K "_law_right")) = true := (v.c.def_ 40 (d := d__law_right) rfl).elim fun _ F => F.kp
theorem b__law_right (v : Ev K mg base) : BodyOk (MM K) P w K mg base 8 "_law_right" (top 55) (He.ga K "_law_right") ["_law_pot_here", "_law_many", "_law_factor", "_law_table_here", "_law_turn", "_law_cycles_here", "_law_tracks", "_law_spot", "_law_due", "_law_told", "_law_told_address", "_law_there"] g__law_right :=
  fun cdv A outer s H E hr tk hp => (dss_cons (ds_set (i := 1) S__law_right.nd (by rfl) (by first | exact Or.inl rfl | exact Or.inr rfl) (de_if (t_gt (DE.frz (d_ownIo (fun h => pe_own ((f__law_draw v).mono (by decide)) hr tk (by rfl) (u__law_draw v) (kp__law_draw v) h) (pv 0) (da_cons di_int da_nil))) (DI.pk di_int)) (x_add di_int (DE.pk (d_ownIo (fun h => pe_own ((f__law_draw v).mono (by decide)) hr tk (by rfl) (u__law_draw v) (kp__law_draw v) h) (pv 0) (da_cons di_int da_nil)))) (x_add di_int (DE.pk (d_ownIo (fun h => pe_own ((f__law_draw v).mono (by decide)) hr tk (by rfl) (u__law_draw v) (kp__law_draw v) h) (pv 0) (da_cons di_int da_nil))))))
    (dss_cons (ds_set (i := 2) S__law_right.nd (by rfl) (by first | exact Or.inl rfl | exact Or.inr rfl) (de_if (t_gt (DE.frz (d_ownIo (fun h => pe_own ((f__law_draw v).mono (by decide)) hr tk (by rfl) (u__law_draw v) (kp__law_draw v) h) (pv 0) (da_cons di_int da_nil))) (DI.pk di_int)) (x_add di_int (DE.pk (d_ownIo (fun h => pe_own ((f__law_draw v).mono (by decide)) hr tk (by rfl) (u__law_draw v) (kp__law_draw v) h) (pv 0) (da_cons di_int da_nil)))) (d_ownIo (fun h => pe_own ((f__law_great v).mono (by decide)) hr tk (by rfl) (u__law_great v) (kp__law_great v) h) (pv 0) (da_cons (DE.frz (x_add di_int (DE.pk (d_ownIo (fun h => pe_own ((f__law_draw v).mono (by decide)) hr tk (by rfl) (u__law_draw v) (kp__law_draw v) h) (pv 0) (da_cons di_int da_nil))))) da_nil))))
    (dss_cons (ds_set (i := 3) S__law_right.nd (by rfl) (by first | exact Or.inl rfl | exact Or.inr rfl) (d_own (fun h => pe_own ((f__law_least v).mono (by decide)) hr tk (by rfl) (u__law_least v) (kp__law_least v) h) (da_cons (DE.frz (d_ownIo (fun h => pe_own ((f__law_table v).mono (by decide)) hr tk (by rfl) (u__law_table v) (kp__law_table v) h) (pv 0) (da_cons (di_var (pv 1)) (da_cons (di_var (pv 2)) da_nil)))) da_nil)))
    (dss_cons (ds_par (i := 5) (j := 6) (by rfl) S__law_right.nd (by rfl) (by rfl) (by decide) (by rfl) (by rfl) (d_own (fun h => pe_own ((f__law_cycles v).mono (by decide)) hr tk (by rfl) (u__law_cycles v) (kp__law_cycles v) h) (da_cons (di_var (pv 3)) da_nil)) (d_make (fun h => pe_makeS (He.mkr_ok (v.c.fact 54 (f := .he (.mkr "Tracks")))) ((f_Tracks___init__ v).mono (by decide)) (hr.mono (by decide : 8 ≤ 8)) tk (by rfl) (u_Tracks v) h) rfl (da_cons (DE.frz (d_make (fun h => pe_makeS (He.mkr_ok (v.c.fact 65 (f := .he (.mkr "Plan")))) ((f_Plan___init__ v).mono (by decide)) (hr.mono (by decide : 4 ≤ 8)) tk (by rfl) (u_Plan v) h) rfl (da_cons (di_var (pv 3)) da_nil))) da_nil)) (by rfl))
    (dss_cons (ds_for hp (by rfl) (dit_rg1 (by rfl) (u_range v) di_int) (dg_name (pg_name S__law_right.nd (by rfl) (by first | exact Or.inl rfl | exact Or.inr rfl))) (tgt_name 4) (dss_cons (ds_set (i := 7) S__law_right.nd (by rfl) (by first | exact Or.inl rfl | exact Or.inr rfl) (d_ownIo (fun h => pe_own ((f__law_place v).mono (by decide)) hr tk (by rfl) (u__law_place v) (kp__law_place v) h) (pv 0) da_nil))
    (dss_cons (ds_set (i := 8) S__law_right.nd (by rfl) (by first | exact Or.inl rfl | exact Or.inr rfl) (d_own (fun h => pe_own ((f__law_address v).mono (by decide)) hr tk (by rfl) (u__law_address v) (kp__law_address v) h) (da_cons (di_var (pv 3)) (da_cons (di_var (pv 5)) (da_cons (di_var (pv 7)) da_nil)))))
    (dss_cons (ds_set (i := 9) S__law_right.nd (by rfl) (by first | exact Or.inl rfl | exact Or.inr rfl) (de_lst (da_cons (DE.frz (d_meth (fun h h' => pe_methD h (methOk_of (T_address v)) (hr.mono (by decide : 3 ≤ 8)) tk h') n_address (di_var (pv 6)) (da_cons (di_var (pv 7)) da_nil))) (da_cons (DE.frz (d_methK0 (fun h h' => pe_methK0 h (methOkK_of (TK_address_0_x v)) (hr.mono (by decide : 3 ≤ 8)) tk h') n_address (di_var (pv 6)) (dk_cons (di_var (pv 7)) dk_nil))) (da_cons (DE.frz (d_meth (fun h h' => pe_methD h (methOk_of (T_place v)) (hr.mono (by decide : 4 ≤ 8)) tk h') n_place (di_var (pv 6)) (da_cons (di_var (pv 8)) da_nil))) (da_cons (DE.frz (d_meth (fun h h' => pe_methD h (methOk_of (T_place v)) (hr.mono (by decide : 4 ≤ 8)) tk h') n_place (di_var (pv 6)) (da_cons (DE.frz (d_meth (fun h h' => pe_methD h (methOk_of (T_address v)) (hr.mono (by decide : 3 ≤ 8)) tk h') n_address (di_var (pv 6)) (da_cons (di_var (pv 7)) da_nil))) da_nil))) da_nil))))))
    (dss_cons (ds_if (t_ne hr (b_reprT (smd_ok (v.c.fact 78 (f := .smd))) hr (by rfl) (u_repr v) (di_var (pv 9))) (DI.pk (b_reprT (smd_ok (v.c.fact 78 (f := .smd))) hr (by rfl) (u_repr v) (DE.frz (de_lst (da_cons (di_var (pv 8)) (da_cons (di_var (pv 8)) (da_cons (di_var (pv 7)) (da_cons (di_var (pv 7)) da_nil))))))))) (dss_one (ds_ret (DI.toE di_bl))) dss_nil)
    (dss_cons (ds_set (i := 10) S__law_right.nd (by rfl) (by first | exact Or.inl rfl | exact Or.inr rfl) (d_ownIo (fun h => pe_own ((f__law_drawn_address v).mono (by decide)) hr tk (by rfl) (u__law_drawn_address v) (kp__law_drawn_address v) h) (pv 0) (da_cons (di_var (pv 5)) da_nil)))
    (dss_cons (ds_set (i := 11) S__law_right.nd (by rfl) (by first | exact Or.inl rfl | exact Or.inr rfl) (d_own (fun h => pe_own ((f__law_place_at v).mono (by decide)) hr tk (by rfl) (u__law_place_at v) (kp__law_place_at v) h) (da_cons (di_var (pv 3)) (da_cons (di_var (pv 5)) (da_cons (di_var (pv 10)) da_nil)))))
    (dss_cons (ds_set (i := 9) S__law_right.nd (by rfl) (by first | exact Or.inl rfl | exact Or.inr rfl) (de_lst (da_cons (DE.frz (d_meth (fun h h' => pe_methD h (methOk_of (T_place v)) (hr.mono (by decide : 4 ≤ 8)) tk h') n_place (di_var (pv 6)) (da_cons (di_var (pv 10)) da_nil))) (da_cons (DE.frz (d_methK0 (fun h h' => pe_methK0 h (methOkK_of (TK_place_0_address v)) (hr.mono (by decide : 4 ≤ 8)) tk h') n_place (di_var (pv 6)) (dk_cons (di_var (pv 10)) dk_nil))) (da_cons (DE.frz (d_meth (fun h h' => pe_methD h (methOk_of (T_address v)) (hr.mono (by decide : 3 ≤ 8)) tk h') n_address (di_var (pv 6)) (da_cons (di_var (pv 11)) da_nil))) da_nil)))))
    (dss_one (ds_if (t_ne hr (b_reprT (smd_ok (v.c.fact 78 (f := .smd))) hr (by rfl) (u_repr v) (di_var (pv 9))) (DI.pk (b_reprT (smd_ok (v.c.fact 78 (f := .smd))) hr (by rfl) (u_repr v) (DE.frz (de_lst (da_cons (di_var (pv 11)) (da_cons (di_var (pv 11)) (da_cons (di_var (pv 10)) da_nil)))))))) (dss_one (ds_ret (DI.toE di_bl))) dss_nil))))))))))
    (dss_one (ds_ret (DI.toE di_bl))))))))
def m__law_right : Fm := mir 12 1 g__law_right
theorem o__law_right (v : Ev K mg base) : DefOk (MM K) P w K mg base 9 "_law_right" "_law_right" (top 55) [] (He.ga K "_law_right") ["_law_pot_here"] m__law_right := by
  obtain ⟨fd, F⟩ := v.c.def_ 40 (d := d__law_right) rfl
  exact ⟨fd, F, funD_mir (M := MM K) F S__law_right (by decide) (fun cdv A outer s H E hr tk hp => b__law_right v cdv A outer s H E hr tk hp)⟩
theorem f__law_right (v : Ev K mg base) : TS.FnR P w K mg base (L2.CX P w) 9 (He.ga K "_law_right") (spD (MM K) m__law_right) := by
  obtain ⟨fd, F, O⟩ := o__law_right (P := P) (w := w) v
  exact fnR_raw (M := MM K) O (F.bindsN (ps := ["_law_pot_here"]) fun _ _ _ _ _ _ us hl => match us, hl with | [_], _ => rfl)
abbrev g__law_pot_1 : FS := (sAsg (fIfE (fTst (fBin gLt (vI 1) (frz (fCal gLen (aOne (vP 0)))))) (fCal gAbs (aOne (frz (fBin gIx (vI 0) (vP 1))))) (fBin gAdd (frz (fBin gMul (kD (.int 37)) (vP 1))) (kD (.int 5)))) (tName 2))
abbrev g__law_pot_2 : FS := (sRet (fLst (aCons (frz (fCal gMax (aCons (kD (.int 0)) (aCons (frz (fBin gSub (vI 2) (frz (fBin gPow (kD (.int 10)) (kD (.int 18)))))) aNil)))) (aCons (frz (fBin gAdd (frz (fBin gMod (frz (fCal gInt (aOne (frz (fBin gAdd (frz (fBin gAdd (frz (fBin gMul (frz (fBin gMod (frz (fCal gInt (aOne (vP 2)))) (kD (.int 2147483587)))) (kD (.int 40009)))) (frz (fBin gMul (kD (.int 51203)) (vP 1))))) (kD (.int 77))))))) (kD (.int 2147483629)))) (kD (.int 1)))) aNil))))
def g__law_pot : FS := (sSeq g__law_pot_1 g__law_pot_2)
theorem S__law_pot : FnScope ["_law_script", "_law_k", "_law_cell"] ["_law_script", "_law_k"] (defScope (top 40)) := ⟨rfl, rfl, rfl, by decide +kernel, rfl, by decide +kernel, by decide +kernel⟩
theorem kp__law_pot (v : Ev K mg base) : PySem.W.keepIn K (.ref (He.ga K "_law_pot")) = true := (v.c.def_ 41 (d := d__law_pot) rfl).elim fun _ F => F.kp
theorem b__law_pot (v : Ev K mg base) : BodyOk (MM K) P w K mg base 0 "_law_pot" (top 40) (He.ga K "_law_pot") ["_law_script", "_law_k", "_law_cell"] g__law_pot :=
  fun cdv A outer s H E hr tk hp => (dss_cons (ds_set (i := 2) S__law_pot.nd (by rfl) (by first | exact Or.inl rfl | exact Or.inr rfl) (de_if (t_lt (di_var (pv 1)) (DE.pk (b_len (by rfl) (u_len v) (db_one (dp_var (pv 0)))))) (b_abs (by rfl) (u_abs v) (db_one (DE.pk (x_ix hr (di_var (pv 0)) (dp_var (pv 1)))))) (x_add (DE.frz (x_mul di_int (dp_var (pv 1)))) (DI.pk di_int))))
    (dss_one (ds_ret (de_lst (da_cons (DE.frz (b_max (by rfl) (by rfl) (u_max v) (DA.b (da_cons di_int (da_cons (DE.frz (x_sub (di_var (pv 2)) (DE.pk (x_pow di_int (DI.pk di_int))))) da_nil))))) (da_cons (DE.frz (x_add (DE.frz (x_mod (DE.frz (b_int (by rfl) (u_int v) (db_one (DE.pk (x_add (DE.frz (x_add (DE.frz (x_mul (DE.frz (x_mod (DE.frz (b_int (by rfl) (u_int v) (db_one (dp_var (pv 2))))) (DI.pk di_int))) (DI.pk di_int))) (DE.pk (x_mul di_int (dp_var (pv 1)))))) (DI.pk di_int)))))) (DI.pk di_int))) (DI.pk di_int))) da_nil))))))
def m__law_pot : Fm := mir 3 2 g__law_pot
theorem o__law_pot (v : Ev K mg base) : DefOk (MM K) P w K mg base 1 "_law_pot" "_law_pot" (top 40) [] (He.ga K "_law_pot") ["_law_script", "_law_k"] m__law_pot := by
  obtain ⟨fd, F⟩ := v.c.def_ 41 (d := d__law_pot) rfl
  exact ⟨fd, F, funD_mir (M := MM K) F S__law_pot (by decide) (fun cdv A outer s H E hr tk hp => b__law_pot v cdv A outer s H E hr tk hp)⟩
theorem f__law_pot (v : Ev K mg base) : TS.FnR P w K mg base (L2.CX P w) 1 (He.ga K "_law_pot") (spD (MM K) m__law_pot) := by
  obtain ⟨fd, F, O⟩ := o__law_pot (P := P) (w := w) v
  exact fnR_raw (M := MM K) O (F.bindsN (ps := ["_law_script", "_law_k"]) fun _ _ _ _ _ _ us hl => match us, hl with | [_, _], _ => rfl)
abbrev g_law_1 : FS := (sRet (fCal gAll (aOne (frz (fLc (stName 1) [1] (itRg1 (frz (fCal gMax (aCons (kD (.int 1)) (aCons (frz (fCal gMin (aCons (kD (.int 4)) (aCons (frz (fCal gLen (aOne (vP 0)))) aNil)))) aNil))))) tTrue (frz (fOwnT m__law_right (fOwn m__law_pot (aCons (vI 0) (aCons (vI 1) aNil))))))))))
def g_law : FS := g_law_1
theorem S_law : FnScope ["_law_script", "_law_k"] ["_law_script"] (defScope (top 56)) := ⟨rfl, rfl, rfl, by decide +kernel, rfl, by decide +kernel, by decide +kernel⟩
theorem b_law (v : Ev K mg base) : BodyOk (MM K) P w K mg base 9 "law" (top 56) (He.ga K "law") ["_law_script", "_law_k"] g_law :=
  fun cdv A outer s H E hr tk hp => (dss_one (ds_ret (b_all (by rfl) (by rfl) (u_all v) (db_one (DE.pk (de_lc (own := [("_law_k", 1)]) (by rfl) (by rfl) S_law.nd (dit_rg1 (by rfl) (u_range v) (DE.frz (b_max (by rfl) (by rfl) (u_max v) (DA.b (da_cons di_int (da_cons (DE.frz (b_min (by rfl) (by rfl) (u_min v) (DA.b (da_cons di_int (da_cons (DE.frz (b_len (by rfl) (u_len v) (db_one (dp_var (pv 0))))) da_nil))))) da_nil)))))) (blkOk_by (by kernel_rfl)) (st_name 1) (fun _ _ _ _ _ => pg_name S_law.nd (by rfl) (by first | exact Or.inl rfl | exact Or.inr rfl)) (fun _ _ _ _ _ => pts_no) (fun _ _ _ _ _ => (DE.frz (d_ownT (fun h => pe_own ((f__law_right v).mono (by decide)) hr TS.takes0 (by rfl) (u__law_right v) (kp__law_right v) h) (d_own (fun h => pe_own ((f__law_pot v).mono (by decide)) hr TS.takes0 (by rfl) (u__law_pot v) (kp__law_pot v) h) (da_cons (di_var (pv 0)) (da_cons (di_var (pv 1)) da_nil))))))))))))
def m_law : Fm := mir 2 1 g_law
theorem o_law (v : Ev K mg base) : DefOk (MM K) P w K mg base 10 "law" "law" (top 56) [] (He.ga K "law") ["_law_script"] m_law := by
  obtain ⟨fd, F⟩ := v.c.def_ 42 (d := d_law) rfl
  exact ⟨fd, F, funD_mir (M := MM K) F S_law (by decide) (fun cdv A outer s H E hr tk hp => b_law v cdv A outer s H E hr tk hp)⟩
end
end K21

namespace K21
open PySem L2 TS
noncomputable section
-- needs:
theorem is_int_int : is_int (.inl "int") = some true := by decide +kernel
theorem is_bool_int : is_bool (.inl "int") = some false := by decide +kernel
theorem is_lt_list : is_list_tuple (.inl "list") = some true := by decide +kernel
@[simp] theorem tag_int (i : Int) : tagD (.int i) = some (.inl "int") := rfl
@[simp] theorem tag_lst (xs : List D) : tagD (.lst xs) = some (.inl "list") := rfl
@[simp] theorem tag_obj (n : Nat) (xs : List D) : tagD (.obj n xs) = some (.inr n) := rfl
theorem is_integer_ok (i : Int) : m_is_integer none [.int i] = .ok (.imm (.bl true)) none := by
  simp [m_is_integer, mir, ini, ioS, ioN, outR, ioOut, g_is_integer, is_int_int, is_bool_int]
theorem require1_ok (i : Int) : m_require_integer_d1 none [.int i] = .ok (.imm .non) none := by
  have e : gNotN .non .non = some (.imm (.bl false)) := rfl
  simp [m_require_integer_d1, fmDfl, m_require_integer, mir, ini, ioS, ioN, outR, ioOut, g_require_integer, is_integer_ok, e]
end
end K21

namespace K21
open PySem L2 TS
noncomputable section
-- needs: ints
abbrev gcT : FT := fTst (fBin gNe (vI 3) (kD (.int 0)))
abbrev gcB : FS := sPar 2 3 (toE (vI 3)) (fBin gMod (vI 2) (vP 3))
theorem gcd_loop {x y : Option TS.R} : ∀ (k : Nat) (a b fuel : Nat), b ≤ k → k < fuel → whileL gcT gcB fuel [x, y, some (.imm (.int (a : Int))), some (.imm (.int (b : Int)))] = .nx [x, y, some (.imm (.int (Nat.gcd a b : Nat))), some (.imm (.int 0))] := by
  intro k
  induction k with
  | zero =>
    intro a b fuel hb hf
    obtain rfl : b = 0 := by omega
    obtain ⟨f, rfl⟩ : ∃ f, fuel = f + 1 := ⟨fuel - 1, by omega⟩
    simp [whileL]
  | succ k ih =>
    intro a b fuel hb hf
    obtain ⟨f, rfl⟩ : ∃ f, fuel = f + 1 := ⟨fuel - 1, by omega⟩
    by_cases h0 : b = 0
    · subst h0; simp [whileL]
    · have e1 : gMod (.int (a : Int)) (.int (b : Int)) = some (.imm (.int ((a % b : Nat) : Int))) := gMod_i (by omega)
      have hlt : a % b < b := Nat.mod_lt _ (by omega)
      have e2 := ih b (a % b) f (by omega) (by omega)
      have hz : ¬ ((b : Int) = 0) := by omega
      have hg : Nat.gcd b (a % b) = Nat.gcd a b := by rw [Nat.gcd_comm a b, Nat.gcd_rec b a, Nat.gcd_comm]
      rw [hg] at e2
      simp only [whileL]
      simp [h0, e1]
      exact e2
theorem ifabs (a : Int) : (if a < 0 then -a else a) = (a.natAbs : Int) := by split <;> omega
theorem divisor_ok (a b : Int) : m_divisor_of_two none [.int a, .int b] = .ok (.imm (.int (Nat.gcd a.natAbs b.natAbs : Nat))) none := by
  have e := gcd_loop (x := some (.imm (.int a))) (y := some (.imm (.int b))) b.natAbs a.natAbs b.natAbs (b.natAbs + 2) (by omega) (by omega)
  simp only [m_divisor_of_two, mir, ini, ioS, ioN, outR, ioOut, g_divisor_of_two]
  simp [ifabs, sWhile, muI, e]
def nL (ns : List Nat) : List D := ns.map fun n : Nat => D.int (n : Int)
@[simp] theorem nL_len (ns : List Nat) : (nL ns).length = ns.length := by simp [nL]
theorem nL_app (a b : List Nat) : nL (a ++ b) = nL a ++ nL b := by simp [nL]
theorem mAppend_nat {c : List Nat} (h : c.length < 16777216) (j : Nat) : mAppend (nL c) [.int (j : Int)] = some (.non, nL (c ++ [j])) := by
  simp only [mAppend, nL_len, h, if_true, nL_app]; rfl
end
end K21

namespace K21
open PySem L2 TS
noncomputable section
-- needs: lcm
end
end K21

namespace K21
open PySem L2 TS
noncomputable section
-- needs: ints
abbrev tg45 : TS.R → Sl → SR := tTup 2 (tsCons (tName 4) (tsCons (tName 5) tsNil))
abbrev ck1 : FS := g_checked_table_4B
theorem ck1_loop {a b c d g : Option TS.R} : ∀ (t : List Int) (i : Nat) (e f : Option TS.R), ∃ e' f', forL tg45 ck1 (enumD i (iL t)) [a, b, c, d, e, f, g] = .nx [a, b, c, d, e', f', g] := by
  intro t
  induction t with
  | nil => intro i e f; exact ⟨e, f, rfl⟩
  | cons x t ih =>
    intro i e f
    obtain ⟨e', f', h⟩ := ih (i + 1) (some (.imm (.int i))) (some (.imm (.int x)))
    refine ⟨e', f', ?_⟩
    rw [← h]
    simp [iL, enumD, forL, is_integer_ok]
abbrev ck2 : FS := g_checked_table_6B
@[simp] theorem toD_dK (ks : List Key) (ds : List D) : (OB.dK ks ds).toD = .dK ks ds := rfl
theorem look_none {ks : List Key} {ds : List D} {k : Key} (h : k ∉ ks) : lookD ks ds k = none := by
  induction ks generalizing ds with
  | nil => cases ds <;> rfl
  | cons a ks ih =>
    simp only [List.mem_cons, not_or] at h
    cases ds with
    | nil => rfl
    | cons d ds => simp only [lookD, if_neg (Ne.symm h.1)]; exact ih h.2
theorem ck2_turn {a c e f g : Option TS.R} {n : Int} (hn : 0 < n) {i : Nat} {x : Int} (hi : i < 3000) {ks : List Key} {ds : List D} (hk : (.inl (((i : Int) + x) % n) : Key) ∉ ks) (hl : ds.length < 3000) :
    ∃ g', ck2 [a, some (.imm (.int 1)), some (.imm (.int n)), some (.own (.dK ks ds)), some (.imm (.int i)), some (.imm (.int x)), g] = .nx [a, some (.imm (.int 1)), some (.imm (.int n)), some (.own (.dK (ks ++ [.inl (((i : Int) + x) % n)]) (ds ++ [.int i]))), some (.imm (.int i)), some (.imm (.int x)), g'] := by
  refine ⟨some (.imm (.int (((i : Int) + x) % n))), ?_⟩
  have m1 : gMul (.int 1) (.int (i : Int)) = some (.imm (.int (1 * (i : Int)))) := gMul_i (by decide) (by omega)
  have md : ∀ z : Int, gMod (.int z) (.int n) = some (.imm (.int (z % n))) := fun z => gMod_i hn
  have gi : gIn (.int (((i : Int) + x) % n)) (.dK ks ds) = some (.imm (.bl false)) := by
    simp [gIn, TS.keyOf, look_none hk]
  have st : setOB (.dK ks ds) (.int (((i : Int) + x) % n)) (.int (i : Int)) = some (.dK (ks ++ [.inl (((i : Int) + x) % n)]) (ds ++ [.int i])) := by
    have h1 : ds.length < 16777216 := by omega
    have h2 : (ks.any fun k' => decide (k' = (.inl (((i : Int) + x) % n) : Key))) = false := by
      rw [List.any_eq_false]
      intro k hkk
      have : k ≠ .inl (((i : Int) + x) % n) := fun z => hk (z ▸ hkk)
      simp [this]
    simp [setOB, TS.keyOf, h1, putD, h2]
  simp [m1, md, gi, st]
theorem ck2_loop {a : Option TS.R} {n : Int} (hn : 0 < n) : ∀ (t : List Int) (i : Nat) (ks : List Int) (ds : List D) (e f g : Option TS.R), i + t.length ≤ 2520 → ds.length = i → (ks ++ rems n i t).Nodup →
    ∃ o' e' f' g', forL tg45 ck2 (enumD i (iL t)) [a, some (.imm (.int 1)), some (.imm (.int n)), some (.own (.dK (ks.map .inl) ds)), e, f, g] = .nx [a, some (.imm (.int 1)), some (.imm (.int n)), some (.own o'), e', f', g'] := by
  intro t
  induction t with
  | nil => intro i ks ds e f g _ _ _; exact ⟨_, e, f, g, rfl⟩
  | cons x t ih =>
    intro i ks ds e f g hl hd hnd
    have hk : (.inl (((i : Int) + x) % n) : Key) ∉ ks.map Sum.inl := by
      intro z
      obtain ⟨y, hy, ez⟩ := List.mem_map.mp z
      cases ez
      have := (List.nodup_append.mp hnd).2.2 _ hy (((i : Int) + x) % n) (by simp [rems])
      exact this rfl
    simp only [List.length_cons] at hl
    obtain ⟨g', e1⟩ := ck2_turn (a := a) (c := none) (e := none) (f := none) (g := g) hn (i := i) (x := x) (by omega) (ds := ds) hk (by omega)
    have hnd' : ((ks ++ [((i : Int) + x) % n]) ++ rems n (i + 1) t).Nodup := by
      rw [List.append_assoc]; exact hnd
    obtain ⟨o', e', f', g2, h⟩ := ih (i + 1) (ks ++ [((i : Int) + x) % n]) (ds ++ [.int i]) (some (.imm (.int i))) (some (.imm (.int x))) g' (by omega) (by simp; omega) hnd'
    refine ⟨o', e', f', g2, ?_⟩
    rw [← h]
    simp only [iL, List.map_cons, enumD, forL, ap_tTup, List.length_cons, List.length_nil, if_true, ap_tsCons, ap_tNameI, SR.bind_nx, ap_tsNil, List.set_cons_succ, List.set_cons_zero, List.map_append, List.map_nil]
    have es : ck2 [a, some (.imm (.int 1)), some (.imm (.int n)), some (.own (.dK (ks.map .inl) ds)), some (.imm (.int i)), some (.imm (.int x)), g] = _ := e1
    simp only [es]
theorem checked_ok {t : List Int} (h : Good t) : m_checked_table none [.lst (iL t), .int 1] = .ok (.own (.l (iL t))) none := by
  obtain ⟨e1, f1, q1⟩ := ck1_loop (a := some (.imm (.lst (iL t)))) (b := some (.imm (.int 1))) (c := some (.imm (.int t.length))) (d := none) (g := none) t 0 none none
  obtain ⟨o', e2, f2, g2, q2⟩ := ck2_loop (a := some (.imm (.lst (iL t)))) (n := t.length) (by have := h.pos; omega) t 0 [] [] e1 f1 none (by have := h.len; omega) rfl (by simpa using h.rems)
  have h0 := h.pos
  have h1 := h.len
  have n0 : ¬ ((t.length : Int) = 0) := by omega
  have n1 : ¬ ((2520 : Int) < t.length) := by omega
  have gl : gList [.lst (iL t)] = some (.own (.l (iL t))) := rfl
  have hl : ((iL t).length : Int) = t.length := by simp [iL]
  have n2 : t ≠ [] := by intro z; subst z; simp at h0
  have q2' := q2
  simp only [List.map_nil] at q2'
  simp [m_checked_table, mir, ini, ioS, ioN, outR, ioOut, g_checked_table, is_lt_list, n0, n1, n2, gl, q1, q2', itEnumLT]
end
end K21

namespace K21
open PySem L2 TS
noncomputable section
-- needs:
abbrev ltB : FS := sIf (fAnd (fTst (fBin gEq (frz (fBin gMod (vI 1) (vP 2))) (kD (.int 0)))) (fTst (fBin gEq (frz (fBin gMul (frz (fSl (vI 0) oNone (oSome (vI 2)))) (frz (fBin gFdiv (vI 1) (vP 2))))) (vP 0)))) (sRet (fSl (vI 0) oNone (oSome (vI 2)))) sNil
theorem gSl_to (t : List Int) (p : Nat) : gSl (.lst (iL t)) none (some (p : Int)) = some (.own (.l (iL (t.take p)))) := by
  have e := cut_to t p
  simp only [gSl]
  rw [e]
theorem lt_rep {t : List Int} (ht : t.length ≤ 2520) {p : Nat} (hp : 0 < p) (hl : p ≤ 2520) : gMul (.lst (iL (t.take p))) (.int ((t.length : Int) / p)) = some (.own (.l (iL (repOf p t)))) := by
  have hle : t.length / p ≤ t.length := Nat.div_le_self _ _
  have hc : ((t.length : Int) / p) = ((t.length / p : Nat) : Int) := (Int.natCast_ediv _ _).symm
  have hm : (t.take p).length * (t.length / p) ≤ 16777216 := by
    rw [List.length_take]
    have : min p t.length * (t.length / p) ≤ 2520 * 2520 := Nat.mul_le_mul (by omega) (by omega)
    omega
  rw [hc]
  exact gRep_nat (by omega) hm
abbrev ltd (t : List Int) (p : Nat) : Sl := [some (.imm (.lst (iL t))), some (.imm (.int t.length)), some (.imm (.int p))]
theorem lt_t1 {t : List Int} {p : Nat} (hp : 0 < p) : fTst (fBin gEq (frz (fBin gMod (vI 1) (vP 2))) (kD (.int 0))) (ltd t p) = .ok (decide (t.length % p = 0)) (ltd t p) := by
  have e1 : gMod (.int (t.length : Int)) (.int (p : Int)) = some (.imm (.int ((t.length : Int) % p))) := gMod_i (by omega)
  have hm : decide ((t.length : Int) % p = 0) = decide (t.length % p = 0) := decide_eq_decide.mpr (by omega)
  rw [← hm]
  simp [e1]
theorem lt_t2 {t : List Int} {p : Nat} {gM gF : D → D → Option TS.R} (e2 : gF (.int (t.length : Int)) (.int (p : Int)) = some (.imm (.int ((t.length : Int) / p)))) (e3 : gM (.lst (iL (t.take p))) (.int ((t.length : Int) / p)) = some (.own (.l (iL (repOf p t))))) : fTst (fBin gEq (frz (fBin gM (frz (fSl (vI 0) oNone (oSome (vI 2)))) (frz (fBin gF (vI 1) (vP 2))))) (vP 0)) (ltd t p) = .ok (decide (repOf p t = t)) (ltd t p) := by
  have e4 := gSl_to t p
  simp [e2, e3, e4]
theorem lt_t3 {t : List Int} {p : Nat} : fSl (vI 0) oNone (oSome (vI 2)) (ltd t p) = .ok (.own (.l (iL (t.take p)))) (ltd t p) := by
  have e4 := gSl_to t p
  simp [e4]
theorem lt_turn {t : List Int} (ht : t.length ≤ 2520) {p : Nat} (hp : 0 < p) (hl : p ≤ 2520) :
    ltB (ltd t p) = if isPer t p then .rt (.own (.l (iL (t.take p)))) (ltd t p) else .nx (ltd t p) := by
  have e2 : gFdiv (.int (t.length : Int)) (.int (p : Int)) = some (.imm (.int ((t.length : Int) / p))) := gFdiv_i (by omega) (by omega)
  have q1 := lt_t1 (t := t) hp
  have q2 := lt_t2 e2 (lt_rep ht hp hl)
  have q3 := lt_t3 (t := t) (p := p)
  unfold ltB isPer
  rw [ap_sIf, ap_fAnd, q1, Res.bind_ok]
  cases decide (t.length % p = 0) with
  | false => rfl
  | true =>
    simp only [if_true, Bool.true_and]
    rw [q2, Res.bindS_ok]
    cases decide (repOf p t = t) with
    | false => rfl
    | true => simp only [if_true]; rw [ap_sRet, q3, Res.bindS_ok]
theorem lt_loop {t : List Int} (ht : t.length ≤ 2520) : ∀ (k i : Nat) (s : Option TS.R), 0 < i → i + k ≤ 2520 →
    (∃ s', forL (tName 2) ltB (iL (nats i k)) [some (.imm (.lst (iL t))), some (.imm (.int t.length)), s] = (match (List.range' i k).find? (isPer t) with
      | some p => .rt (.own (.l (iL (t.take p)))) [some (.imm (.lst (iL t))), some (.imm (.int t.length)), s']
      | none => .nx [some (.imm (.lst (iL t))), some (.imm (.int t.length)), s'])) := by
  intro k
  induction k with
  | zero => intro i s _ _; exact ⟨s, by simp [nats, forL, iL]⟩
  | succ k ih =>
    intro i s hi hk
    have e := lt_turn ht hi (by omega)
    rw [nats_succ]
    simp only [forL, ap_tNameI, SR.bind_nx, List.set_cons_succ, List.set_cons_zero, e, List.range'_succ, List.find?_cons]
    cases hp : isPer t i with
    | true => exact ⟨_, rfl⟩
    | false =>
      obtain ⟨s', e2⟩ := ih (i + 1) (some (.imm (.int i))) (by omega) (by omega)
      exact ⟨s', by simp only [Bool.false_eq_true, if_false]; exact e2⟩
theorem least_table_any {t : List Int} (h0 : 0 < t.length) (h1 : t.length ≤ 2520) : ∃ r, (r = .own (.l (iL (least t))) ∨ r = .imm (.lst (iL (least t)))) ∧ m_least_table none [.lst (iL t)] = .ok r none := by
  have f1 : itRg2 (kD (.int 1)) (vI 1) [some (.imm (.lst (iL t))), some (.imm (.int t.length)), none] = .ok (iL (nats 1 (t.length - 1))) [some (.imm (.lst (iL t))), some (.imm (.int t.length)), none] :=
    itRg2_ok (i := 1) (k := t.length) (by omega) (by omega) rfl (by simp)
  obtain ⟨s', e⟩ := lt_loop h1 (t.length - 1) 1 none (by omega) (by omega)
  have hl : ((iL t).length : Int) = t.length := by simp [iL]
  have s4 : ∀ G : FS, mir 3 1 G none [.lst (iL t)] = outR none (G [some (.imm (.lst (iL t))), none, none]) := fun G => by simp [mir, ini, ioS, ioN]
  have s2 : g_least_table_1 [some (.imm (.lst (iL t))), none, none] = .nx [some (.imm (.lst (iL t))), some (.imm (.int t.length)), none] := by simp
  have s3 : g_least_table [some (.imm (.lst (iL t))), none, none] = ((forL (tName 2) ltB (iL (nats 1 (t.length - 1))) [some (.imm (.lst (iL t))), some (.imm (.int t.length)), none])).bind (sRet (vR 0)) := by
    unfold g_least_table
    rw [ap_sSeq, s2, SR.bind_nx, ap_sSeq]
    show (sFor (itRg2 (kD (.int 1)) (vI 1)) (tName 2) ltB _).bind _ = _
    rw [ap_sFor, f1, Res.bindS_ok]
  unfold m_least_table
  rw [s4, s3, e]
  unfold least leastP
  cases q : (List.range' 1 (t.length - 1)).find? (isPer t) with
  | some p => exact ⟨_, .inl rfl, rfl⟩
  | none => exact ⟨_, .inr (by simp), rfl⟩
theorem least_table_ok {t : List Int} (h : Good t) : ∃ r, (r = .own (.l (iL (least t))) ∨ r = .imm (.lst (iL (least t)))) ∧ m_least_table none [.lst (iL t)] = .ok r none := least_table_any h.pos h.len
end
end K21

namespace K21
open PySem L2 TS
noncomputable section
-- needs:
abbrev srB : FS := sAsg (toE (vI 2)) (tSub 1 (frz (fBin gMod (frz (fBin gAdd (vI 2) (vP 3))) (frz (fCal gLen (aOne (vP 0)))))))
abbrev tg23 : TS.R → Sl → SR := tTup 2 (tsCons (tName 2) (tsCons (tName 3) tsNil))
theorem src_loop {T : List Int} (h0 : 0 < T.length) : ∀ (t : List Int) (i : Nat) (acc : List Int) (s2 s3 : Option TS.R), acc.length = T.length →
    ∃ s2' s3', forL tg23 srB (enumD i (iL t)) [some (.imm (.lst (iL T))), some (.own (.l (iL acc))), s2, s3] = .nx [some (.imm (.lst (iL T))), some (.own (.l (iL (srcL T.length i t acc)))), s2', s3'] := by
  intro t
  induction t with
  | nil => intro i acc s2 s3 _; exact ⟨s2, s3, rfl⟩
  | cons x t ih =>
    intro i acc s2 s3 hl
    obtain ⟨a, b, e⟩ := ih (i + 1) (acc.set (((i : Int) + x) % T.length).toNat i) (some (.imm (.int i))) (some (.imm (.int x))) (by simp [hl])
    refine ⟨a, b, ?_⟩
    rw [srcL, ← e]
    have b1 := Int.emod_nonneg ((i : Int) + x) (show (T.length : Int) ≠ 0 by omega)
    have b2 := Int.emod_lt_of_pos ((i : Int) + x) (show 0 < (T.length : Int) by omega)
    have md : gMod (.int ((i : Int) + x)) (.int (T.length : Int)) = some (.imm (.int (((i : Int) + x) % T.length))) := gMod_i (by omega)
    have st := setOB_int (acc := acc) b1 (by rw [hl]; exact b2) (i : Int)
    have hL : ((iL T).length : Int) = T.length := by simp [iL]
    simp [iL_cons, enumD, forL, md, st]
theorem sources_ok {t : List Int} (h : Good t) : m_sources_of none [.lst (iL t)] = .ok (.own (.l (iL (srcs t)))) none := by
  have h0 := h.pos
  have h1 := h.len
  have c1 : fLc (stName 3) [3] (itSeq (vI 0)) tTrue (kD (.int 0)) [some (.imm (.lst (iL t))), none, none, none] = .ok (.own (.l (iL (List.replicate t.length 0)))) [some (.imm (.lst (iL t))), none, none, none] := by
    have q := lc_ints (xs := t) (fun _ => 0) (i := 3) (fi := itSeq (vI 0)) (fe := kD (.int 0)) (δ := [some (.imm (.lst (iL t))), none, none, none]) (δ1 := [some (.imm (.lst (iL t))), none, none, none]) (by simp) rfl (by omega) (fun x _ => by simp)
    rw [q, List.map_const']
  obtain ⟨a, b, e⟩ := src_loop h0 t 0 (List.replicate t.length 0) none none (by simp)
  simp [m_sources_of, mir, ini, ioS, ioN, outR, ioOut, g_sources_of, c1, e]
  rfl
end
end K21

namespace K21
open PySem L2 TS
noncomputable section
-- needs: join checked least srcs
def planD (s : List Int) : List D := [.lst (iL s), .lst (iL (srcs s))]
abbrev pl (t : List Int) : D := .obj 0 (planD (least t))
abbrev plO (t : List Int) : OB := .o 0 (planD (least t))
theorem init_ok {t : List Int} (h : Good t) : m_Plan___init__ (some (.o 0 [])) [.lst (iL t)] = .ok (.imm .non) (some (plO t)) := by
  obtain ⟨r, hr, e⟩ := least_table_ok h
  have c := checked_ok h
  have sr := sources_ok h.least
  rcases hr with rfl | rfl <;>
  simp [m_Plan___init__, mir, ini, ioS, ioN, outR, ioOut, g_Plan___init__, c, e, sr, ix_own_offsets, ix_own_sources, setF, plO, planD]
theorem offsets_ok (t : List Int) : m_Plan_offsets none [pl t] = .ok (.own (.l (iL (least t)))) none := by
  have gl : gList [.lst (iL (least t))] = some (.own (.l (iL (least t)))) := rfl
  simp [m_Plan_offsets, mir, ini, ioS, ioN, outR, ioOut, g_Plan_offsets, pl, planD, ix_own_offsets, gl]
end
end K21

namespace K21
open PySem L2 TS
noncomputable section
-- needs: plan
theorem ix_at {t : List Int} {k : Int} (h0 : 0 ≤ k) (h1 : k < t.length) : gIx (.lst (iL t)) (.int k) = some (.imm (.int (act t k))) := by
  have e := ix_mod (t := t) (by omega) k
  rw [Int.emod_eq_of_lt h0 h1] at e
  exact e
end
end K21

namespace K21
open PySem L2 TS
noncomputable section
-- needs: inverse
def kN (S : List Nat) : List Key := S.map fun j : Nat => (Sum.inl (j : Int) : Key)
def trN (S : List Nat) : List D := S.map fun _ => D.bl true
theorem look_mem : ∀ (S : List Nat) (j : Nat), lookD (kN S) (trN S) (Sum.inl (j : Int)) = if j ∈ S then some (.bl true) else none
  | [], j => by simp [kN, trN, lookD]
  | a :: S, j => by
    have ih := look_mem S j
    simp only [kN, trN, List.map_cons, lookD] at ih ⊢
    by_cases h : a = j
    · subst h; simp
    · have h2 : ¬ ((Sum.inl (a : Int) : Key) = Sum.inl (j : Int)) := fun z => h (by have := Sum.inl.inj z; omega)
      rw [if_neg h2, ih]
      have h3 : ¬ j = a := fun z => h z.symm
      simp [h3]
theorem notin_ok (S : List Nat) (j : Nat) : gNotIn (.int (j : Int)) (.dK (kN S) (trN S)) = some (.imm (.bl (!decide (j ∈ S)))) := by
  simp only [gNotIn, TS.keyOf, Option.map_some, look_mem]
  by_cases h : j ∈ S <;> simp [h]
theorem set_new {S : List Nat} {j : Nat} (h : j ∉ S) (hl : S.length < 16777216) : setOB (.dK (kN S) (trN S)) (.int (j : Int)) (.bl true) = some (.dK (kN (S ++ [j])) (trN (S ++ [j]))) := by
  have h1 : (trN S).length < 16777216 := by simp [trN]; exact hl
  have h2 : ((kN S).any fun k' => decide (k' = (Sum.inl (j : Int) : Key))) = false := by
    rw [List.any_eq_false]
    intro k hk
    obtain ⟨a, ha, rfl⟩ := List.mem_map.mp hk
    have : ¬ ((Sum.inl (a : Int) : Key) = Sum.inl (j : Int)) := fun z => h (by have := Sum.inl.inj z; rw [show j = a by omega]; exact ha)
    simp [this]
  have e1 : kN (S ++ [j]) = kN S ++ [Sum.inl (j : Int)] := by simp [kN]
  have e2 : trN (S ++ [j]) = trN S ++ [.bl true] := by simp [trN]
  simp only [setOB, TS.keyOf, Option.bind_some, h1, if_true, putD, h2, e1, e2]
  simp
structure Wk (t : List Int) (a : Nat) (S c : List Nat) (here : Nat) : Prop where
  path : Path t c
  nd : c.Nodup
  dis : ∀ j ∈ c, j ∉ S
  hl : here < t.length
  beg : c = [] → here = a
  fst : ∀ b, c[0]? = some b → b = a
  lst : ∀ b, c[c.length - 1]? = some b → here = nx t b
theorem cy_turn {t : List Int} (h : Good t) {a : Nat} {S c : List Nat} {here : Nat} (w : Wk t a S c here) (hn : here ∉ S ++ c) (hS : (S ++ c).length ≤ 6000) {s1 s2 : Option TS.R} :
    g_cycles_in_2_2B [some (.imm (.lst (iL t))), s1, s2, some (.own (.dK (kN (S ++ c)) (trN (S ++ c)))), some (.own (.l (nL c))), some (.imm (.int (here : Int)))] =
      .nx [some (.imm (.lst (iL t))), s1, s2, some (.own (.dK (kN (S ++ (c ++ [here]))) (trN (S ++ (c ++ [here]))))), some (.own (.l (nL (c ++ [here])))), some (.imm (.int (nx t here : Nat)))] := by
  have e1 := set_new hn (by omega)
  rw [List.append_assoc] at e1
  have hcl : c.length ≤ 6000 := by simp at hS; omega
  have e2 := mAppend_nat (c := c) (by omega) here
  have e3 := ix_at (t := t) (k := (here : Int)) (by omega) (by have := w.hl; omega)
  have e4 : gMod (.int ((here : Int) + act t here)) (.int (t.length : Int)) = some (.imm (.int (nx t here : Nat))) := by
    rw [gMod_i (by have := h.pos; omega), nx_int h.pos]
  generalize act t here = y at *
  simp [e1, e2, e3, e4, -gIx_l]
theorem Wk.next {t : List Int} (h : Good t) {a : Nat} {S c : List Nat} {here : Nat} (w : Wk t a S c here) (hn : here ∉ S ++ c) : Wk t a S (c ++ [here]) (nx t here) := by
  simp only [List.mem_append, not_or] at hn
  refine ⟨⟨fun j hj => ?_, fun k x y h1 h2 => ?_⟩, ?_, fun j hj => ?_, nx_lt h.pos _, fun z => by simp at z, fun b hb => ?_, fun b hb => ?_⟩
  · rcases List.mem_append.mp hj with hj | hj
    · exact w.path.lt j hj
    · simp at hj; subst hj; exact w.hl
  · by_cases hk : k + 1 < c.length
    · rw [List.getElem?_append_left (by omega)] at h1 h2
      exact w.path.step k x y h1 h2
    · by_cases hk2 : k + 1 = c.length
      · rw [List.getElem?_append_left (by omega)] at h1
        rw [List.getElem?_append_right (by omega), hk2, Nat.sub_self] at h2
        simp at h2
        subst h2
        exact w.lst x (by rw [show c.length - 1 = k by omega]; exact h1)
      · rw [List.getElem?_eq_none (by simp; omega)] at h2
        cases h2
  · rw [List.nodup_append]
    refine ⟨w.nd, by simp, fun x hx y hy e => ?_⟩
    simp at hy
    subst hy e
    exact hn.2 hx
  · rcases List.mem_append.mp hj with hj | hj
    · exact w.dis j hj
    · simp at hj; subst hj; exact hn.1
  · by_cases hc : c = []
    · subst hc
      simp at hb
      rw [← hb]; exact w.beg rfl
    · have : 0 < c.length := List.length_pos_iff.mpr hc
      rw [List.getElem?_append_left this] at hb
      exact w.fst b hb
  · simp at hb
    rw [hb]
theorem cy_while {t : List Int} (h : Good t) {a : Nat} {S : List Nat} (hSl : S.length ≤ 2520) {s1 s2 : Option TS.R} : ∀ (m : Nat) (c : List Nat) (here fuel : Nat), Wk t a S c here → c.length + m = t.length → m < fuel →
    ∃ (c' : List Nat) (here' : Nat), whileL (fTst (fBin gNotIn (vI 5) (vP 3))) g_cycles_in_2_2B fuel [some (.imm (.lst (iL t))), s1, s2, some (.own (.dK (kN (S ++ c)) (trN (S ++ c)))), some (.own (.l (nL c))), some (.imm (.int (here : Int)))] =
      .nx [some (.imm (.lst (iL t))), s1, s2, some (.own (.dK (kN (S ++ c')) (trN (S ++ c')))), some (.own (.l (nL c'))), some (.imm (.int (here' : Int)))] ∧ Wk t a S c' here' ∧ here' ∈ S ++ c' := by
  have hlen := h.len
  intro m
  induction m with
  | zero =>
    intro c here fuel w hm hf
    obtain ⟨f, rfl⟩ : ∃ f, fuel = f + 1 := ⟨fuel - 1, by omega⟩
    have hin : here ∈ S ++ c := List.mem_append_right _ (nd_all t.length c w.nd w.path.lt (by omega) here w.hl)
    refine ⟨c, here, ?_, w, hin⟩
    have e := notin_ok (S ++ c) here
    have e' : gNotIn (.int (here : Int)) (.dK (kN (S ++ c)) (trN (S ++ c))) = some (.imm (.bl false)) := by rw [e]; simp [List.mem_append.mp hin]
    simp only [whileL]
    simp [e']
  | succ m ih =>
    intro c here fuel w hm hf
    obtain ⟨f, rfl⟩ : ∃ f, fuel = f + 1 := ⟨fuel - 1, by omega⟩
    have e := notin_ok (S ++ c) here
    by_cases hin : here ∈ S ++ c
    · refine ⟨c, here, ?_, w, hin⟩
      have e' : gNotIn (.int (here : Int)) (.dK (kN (S ++ c)) (trN (S ++ c))) = some (.imm (.bl false)) := by rw [e]; simp [List.mem_append.mp hin]
      simp only [whileL]
      simp [e']
    · obtain ⟨c', here', e2, w', hin'⟩ := ih (c ++ [here]) (nx t here) f (w.next h hin) (by simp; omega) (by omega)
      refine ⟨c', here', ?_, w', hin'⟩
      have e' : gNotIn (.int (here : Int)) (.dK (kN (S ++ c)) (trN (S ++ c))) = some (.imm (.bl true)) := by rw [e]; simp [hin]
      have tn := cy_turn h w hin (by simp; omega) (s1 := s1) (s2 := s2)
      have tt : fTst (fBin gNotIn (vI 5) (vP 3)) [some (.imm (.lst (iL t))), s1, s2, some (.own (.dK (kN (S ++ c)) (trN (S ++ c)))), some (.own (.l (nL c))), some (.imm (.int (here : Int)))] = .ok true [some (.imm (.lst (iL t))), s1, s2, some (.own (.dK (kN (S ++ c)) (trN (S ++ c)))), some (.own (.l (nL c))), some (.imm (.int (here : Int)))] := by simp [e']
      rw [whileL, tt, Res.bindS_ok]
      simp only [if_true]
      rw [tn]
      exact e2
inductive CyR (t : List Int) : Nat → List (List Nat) → Prop where
  | nil : CyR t 0 []
  | old {a : Nat} {cs : List (List Nat)} (h : CyR t a cs) (hin : a ∈ cs.flatten) : CyR t (a + 1) cs
  | new {a : Nat} {cs : List (List Nat)} {c : List Nat} (h : CyR t a cs) (hn : a ∉ cs.flatten) (r : Cyc t c) (hd : c[0]? = some a) : CyR t (a + 1) (cs ++ [c])
theorem cyc_uniq {t : List Int} {c d : List Nat} (hc : Cyc t c) (hd : Cyc t d) {a : Nat} (h1 : c[0]? = some a) (h2 : d[0]? = some a) : c = d := by
  have key : ∀ i : Nat, i < c.length → i < d.length → c[i]? = d[i]? := by
    intro i
    induction i with
    | zero => intro _ _; rw [h1, h2]
    | succ i ih =>
      intro a1 a2
      have e := ih (by omega) (by omega)
      rw [List.getElem?_eq_getElem (show i < c.length by omega), List.getElem?_eq_getElem (show i < d.length by omega)] at e
      have e := Option.some.inj e
      have s1 := hc.path.step i c[i] c[i + 1] (List.getElem?_eq_getElem (by omega)) (List.getElem?_eq_getElem a1)
      have s2 := hd.path.step i d[i] d[i + 1] (List.getElem?_eq_getElem (by omega)) (List.getElem?_eq_getElem a2)
      rw [List.getElem?_eq_getElem a1, List.getElem?_eq_getElem a2, s1, s2, e]
  have short : ∀ {c d : List Nat}, Cyc t c → Cyc t d → c[0]? = some a → d[0]? = some a → (∀ i : Nat, i < c.length → i < d.length → c[i]? = d[i]?) → ¬ c.length < d.length := fun {c d} hc hd h1 h2 key hlt => by
    have hne := hc.ne
    have last : c[c.length - 1]? = some c[c.length - 1] := List.getElem?_eq_getElem (by omega)
    have cl := hc.close _ _ last h1
    have e := key (c.length - 1) (by omega) (by omega)
    rw [last] at e
    have s := hd.path.step (c.length - 1) c[c.length - 1] d[c.length] e.symm (by rw [show c.length - 1 + 1 = c.length by omega]; exact List.getElem?_eq_getElem hlt)
    rw [← cl] at s
    refine nodup_iff.mp hd.nd 0 c.length hne hlt ?_
    rw [h2, List.getElem?_eq_getElem hlt, s]
  have n1 := short hc hd h1 h2 key
  have n2 := short hd hc h2 h1 fun i a b => (key i b a).symm
  apply List.ext_getElem?
  intro i
  by_cases hi : i < c.length
  · exact key i hi (by omega)
  · rw [List.getElem?_eq_none (by omega), List.getElem?_eq_none (by omega)]
theorem CyR.uniq {t : List Int} {a : Nat} {cs : List (List Nat)} (h : CyR t a cs) : ∀ {cs' : List (List Nat)}, CyR t a cs' → cs = cs' := by
  induction h with
  | nil => intro cs' h'; cases h'; rfl
  | old h hin ih =>
    intro cs' h'
    cases h' with
    | old h' _ => exact ih h'
    | new h' hn _ _ => rw [ih h'] at hin; exact absurd hin hn
  | new h hn r hd ih =>
    intro cs' h'
    cases h' with
    | old h' hin => rw [ih h'] at hn; exact absurd hin hn
    | new h' _ r' hd' => rw [ih h', cyc_uniq r r' hd hd']
structure Cys (t : List Int) (m : Nat) (cs : List (List Nat)) : Prop where
  all : ∀ c ∈ cs, Cyc t c
  nd : cs.flatten.Nodup
  pre : ∀ j ∈ cs.flatten, ∃ z ∈ cs.flatten, nx t z = j
  dn : ∀ j, j < m → j ∈ cs.flatten
  beg : ∀ c ∈ cs, ∀ b, c[0]? = some b → ∀ j ∈ c, b ≤ j
  rr : CyR t m cs
theorem Cys.lt {t : List Int} {m : Nat} {cs : List (List Nat)} (h : Cys t m cs) : ∀ j ∈ cs.flatten, j < t.length := fun j hj => by
  obtain ⟨c, hc, hj⟩ := List.mem_flatten.mp hj
  exact (h.all c hc).path.lt j hj
theorem Cys.len {t : List Int} {m : Nat} {cs : List (List Nat)} (h : Cys t m cs) : cs.flatten.length ≤ t.length := nd_le _ _ h.nd h.lt
theorem cys_turn {t : List Int} (h : Good t) {m : Nat} {cs : List (List Nat)} (hc : Cys t m cs) {c : List Nat} {here : Nat} (w : Wk t m cs.flatten c here) (hin : here ∈ cs.flatten ++ c) : (c = [] → Cys t (m + 1) cs) ∧ (c ≠ [] → Cys t (m + 1) (cs ++ [c])) := by
  constructor
  · intro hz
    subst hz
    rw [List.append_nil, w.beg rfl] at hin
    refine ⟨hc.all, hc.nd, hc.pre, fun j hj => ?_, hc.beg, .old hc.rr hin⟩
    by_cases e : j = m
    · subst e; exact hin
    · exact hc.dn j (by omega)
  · intro hz
    have hp : 0 < c.length := List.length_pos_iff.mpr hz
    have last : c[c.length - 1]? = some c[c.length - 1] := List.getElem?_eq_getElem (by omega)
    have first : c[0]? = some c[0] := List.getElem?_eq_getElem hp
    have hl := w.lst _ last
    have cl : here = c[0] := by
      rcases List.mem_append.mp hin with z | z
      · exfalso
        obtain ⟨y, hy, e⟩ := hc.pre here z
        have := nx_inj h (hc.lt y hy) (w.path.lt _ (List.getElem_mem (by omega))) (e.trans hl)
        exact w.dis _ (List.getElem_mem (show c.length - 1 < c.length by omega)) (this ▸ hy)
      · obtain ⟨j, hj, e⟩ := List.getElem_of_mem z
        by_cases j0 : j = 0
        · subst j0; exact e.symm
        · exfalso
          have s := w.path.step (j - 1) c[j - 1] c[j] (List.getElem?_eq_getElem (by omega)) (by rw [show j - 1 + 1 = j by omega]; exact List.getElem?_eq_getElem hj)
          rw [e, hl] at s
          have q := nx_inj h (w.path.lt _ (List.getElem_mem (by omega))) (w.path.lt _ (List.getElem_mem (by omega))) s
          have nd := nodup_iff.mp w.nd (j - 1) (c.length - 1) (by omega) (by omega)
          apply nd
          rw [List.getElem?_eq_getElem (by omega), List.getElem?_eq_getElem (by omega), q]
    have cyc : Cyc t c := ⟨w.path, w.nd, hp, fun a b ha hb => by
      rw [last] at ha
      rw [first] at hb
      cases ha; cases hb
      rw [← cl]; exact hl⟩
    have fl : (cs ++ [c]).flatten = cs.flatten ++ c := by simp
    refine ⟨fun d hd => ?_, ?_, ?_, fun j hj => ?_, fun d hd b hb j hj => ?_, .new hc.rr (fun z => w.dis _ (List.getElem_mem hp) ((w.fst _ first).symm ▸ z)) cyc (by rw [first, w.fst _ first])⟩
    · rcases List.mem_append.mp hd with hd | hd
      · exact hc.all d hd
      · simp at hd; subst hd; exact cyc
    · rw [fl, List.nodup_append]
      exact ⟨hc.nd, w.nd, fun x hx y hy e => w.dis y hy (e ▸ hx)⟩
    · rw [fl]
      intro j hj
      rcases List.mem_append.mp hj with hj | hj
      · obtain ⟨z, hz, e⟩ := hc.pre j hj
        exact ⟨z, List.mem_append_left _ hz, e⟩
      · obtain ⟨k, hk, e⟩ := List.getElem_of_mem hj
        by_cases k0 : k = 0
        · subst k0
          exact ⟨c[c.length - 1], List.mem_append_right _ (List.getElem_mem _), by rw [← hl, cl, e]⟩
        · exact ⟨c[k - 1], List.mem_append_right _ (List.getElem_mem _), (by
            have := w.path.step (k - 1) c[k - 1] c[k] (List.getElem?_eq_getElem (by omega)) (by rw [show k - 1 + 1 = k by omega]; exact List.getElem?_eq_getElem hk)
            rw [← this, e])⟩
    · rw [fl]
      by_cases e : j = m
      · subst e
        refine List.mem_append_right _ ?_
        rw [← w.fst _ first]; exact List.getElem_mem _
      · exact List.mem_append_left _ (hc.dn j (by omega))
    · rcases List.mem_append.mp hd with hd | hd
      · exact hc.beg d hd b hb j hj
      · simp at hd; subst hd
        rw [w.fst b hb]
        rcases Nat.lt_or_ge j m with z | z
        · exact absurd (hc.dn j z) (w.dis j hj)
        · exact z
def cL (cs : List (List Nat)) : List D := cs.map fun c => .lst (nL c)
theorem gNe_nl (c : List Nat) : gNe (.lst (nL c)) (.lst []) = some (.imm (.bl (!decide (c = [])))) := by
  have e : nL c = iL (c.map fun n : Nat => (n : Int)) := by simp [nL, iL]
  have q := gNe_l (c.map fun n : Nat => (n : Int)) []
  rw [iL_nil] at q
  rw [e, q]
  simp
theorem cyb_turn {t : List Int} (h : Good t) {m : Nat} (hm : m < t.length) {cs : List (List Nat)} (hc : Cys t m cs) (hl : cs.length ≤ 3000) {s4 s5 : Option TS.R} :
    ∃ cs' s4' s5', Cys t (m + 1) cs' ∧ cs'.length ≤ cs.length + 1 ∧ g_cycles_in_2B [some (.imm (.lst (iL t))), some (.imm (.int (m : Int))), some (.own (.l (cL cs))), some (.own (.dK (kN cs.flatten) (trN cs.flatten))), s4, s5] =
      .nx [some (.imm (.lst (iL t))), some (.imm (.int (m : Int))), some (.own (.l (cL cs'))), some (.own (.dK (kN cs'.flatten) (trN cs'.flatten))), s4', s5'] := by
  have w0 : Wk t m cs.flatten [] m := ⟨⟨fun j hj => absurd hj List.not_mem_nil, fun k a b h1 _ => (by simp at h1)⟩, by simp, fun j hj => absurd hj List.not_mem_nil, hm, fun _ => rfl, fun b hb => (by simp at hb), fun b hb => (by simp at hb)⟩
  have hfl := hc.len
  have htl := h.len
  obtain ⟨c', here', e2, w', hin⟩ := cy_while h (a := m) (S := cs.flatten) (by omega) (s1 := some (.imm (.int (m : Int)))) (s2 := some (.own (.l (cL cs)))) t.length [] m (t.length + 2) w0 (by simp) (by omega)
  rw [List.append_nil] at e2
  have S1 : g_cycles_in_2_1 [some (.imm (.lst (iL t))), some (.imm (.int (m : Int))), some (.own (.l (cL cs))), some (.own (.dK (kN cs.flatten) (trN cs.flatten))), s4, s5] = .nx [some (.imm (.lst (iL t))), some (.imm (.int (m : Int))), some (.own (.l (cL cs))), some (.own (.dK (kN cs.flatten) (trN cs.flatten))), some (.own (.l (nL []))), some (.imm (.int (m : Int)))] := by simp [nL]
  have S2 : g_cycles_in_2_2 [some (.imm (.lst (iL t))), some (.imm (.int (m : Int))), some (.own (.l (cL cs))), some (.own (.dK (kN cs.flatten) (trN cs.flatten))), some (.own (.l (nL []))), some (.imm (.int (m : Int)))] = .nx [some (.imm (.lst (iL t))), some (.imm (.int (m : Int))), some (.own (.l (cL cs))), some (.own (.dK (kN (cs.flatten ++ c')) (trN (cs.flatten ++ c')))), some (.own (.l (nL c'))), some (.imm (.int (here' : Int)))] := by
    show sWhile (muN 0) _ _ _ = _
    unfold sWhile
    have : muN 0 [some (.imm (.lst (iL t))), some (.imm (.int (m : Int))), some (.own (.l (cL cs))), some (.own (.dK (kN cs.flatten) (trN cs.flatten))), some (.own (.l (nL []))), some (.imm (.int (m : Int)))] = t.length + 2 := by simp [muN]
    rw [this]
    exact e2
  have ne := gNe_nl c'
  obtain ⟨q1, q2⟩ := cys_turn h hc w' hin
  by_cases hz : c' = []
  · refine ⟨cs, some (.own (.l (nL []))), some (.imm (.int (here' : Int))), q1 hz, by omega, ?_⟩
    show (sSeq g_cycles_in_2_1 (sSeq g_cycles_in_2_2 g_cycles_in_2_3)) _ = _
    rw [ap_sSeq, S1, SR.bind_nx, ap_sSeq, S2, SR.bind_nx]
    subst hz
    have ne' : gNe (.lst (nL [])) (.lst []) = some (.imm (.bl false)) := by rw [ne]; rfl
    simp [ne']
  · refine ⟨cs ++ [c'], some (.imm (.lst (nL c'))), some (.imm (.int (here' : Int))), q2 hz, by simp, ?_⟩
    show (sSeq g_cycles_in_2_1 (sSeq g_cycles_in_2_2 g_cycles_in_2_3)) _ = _
    rw [ap_sSeq, S1, SR.bind_nx, ap_sSeq, S2, SR.bind_nx]
    have ne' : gNe (.lst (nL c')) (.lst []) = some (.imm (.bl true)) := by rw [ne]; simp [hz]
    have ap : mAppend (cL cs) [.lst (nL c')] = some (.non, cL (cs ++ [c'])) := by
      have : (cL cs).length < 16777216 := by simp [cL]; omega
      have e : cL (cs ++ [c']) = cL cs ++ [.lst (nL c')] := by simp [cL]
      simp only [mAppend, this, if_true, e]
    have fl : (cs ++ [c']).flatten = cs.flatten ++ c' := by simp
    rw [fl]
    simp [ne', ap]
theorem cycles_ok {t : List Int} (h : Good t) : ∃ cs, m_cycles_in none [.lst (iL t)] = .ok (.own (.l (cL cs))) none ∧ Cys t t.length cs := by
  have htl := h.len
  have loop : ∀ (k m : Nat) (cs : List (List Nat)) (s1 s4 s5 : Option TS.R), m + k = t.length → Cys t m cs → cs.length ≤ m → ∃ cs' s1' s4' s5', Cys t t.length cs' ∧ forL (tName 1) g_cycles_in_2B (iL (nats m k)) [some (.imm (.lst (iL t))), s1, some (.own (.l (cL cs))), some (.own (.dK (kN cs.flatten) (trN cs.flatten))), s4, s5] = .nx [some (.imm (.lst (iL t))), s1', some (.own (.l (cL cs'))), some (.own (.dK (kN cs'.flatten) (trN cs'.flatten))), s4', s5'] := by
    intro k
    induction k with
    | zero =>
      intro m cs s1 s4 s5 hm hc _
      rw [Nat.add_zero] at hm
      subst hm
      exact ⟨cs, s1, s4, s5, hc, by simp [nats, forL]⟩
    | succ k ih =>
      intro m cs s1 s4 s5 hm hc hl
      obtain ⟨cs1, a4, a5, hc1, hl1, e1⟩ := cyb_turn h (m := m) (by omega) hc (by omega) (s4 := s4) (s5 := s5)
      obtain ⟨cs', b1, b4, b5, hc', e2⟩ := ih (m + 1) cs1 (some (.imm (.int (m : Int)))) a4 a5 (by omega) hc1 (by omega)
      refine ⟨cs', b1, b4, b5, hc', ?_⟩
      rw [nats_succ]
      simp only [forL, ap_tNameI, SR.bind_nx, List.set_cons_succ, List.set_cons_zero, e1]
      exact e2
  obtain ⟨cs, a1, a4, a5, hc, e⟩ := loop t.length 0 [] none none none (by omega) ⟨fun c hc => absurd hc List.not_mem_nil, by simp, fun j hj => (by simp at hj), fun j hj => (by omega), fun c hc => absurd hc List.not_mem_nil, .nil⟩ (by simp)
  refine ⟨cs, ?_, hc⟩
  have e' : forL (tName 1) g_cycles_in_2B (iL (nats 0 t.length)) [some (.imm (.lst (iL t))), none, some (.own (.l [])), some (.own (.dK [] [])), none, none] = .nx [some (.imm (.lst (iL t))), a1, some (.own (.l (cL cs))), some (.own (.dK (kN cs.flatten) (trN cs.flatten))), a4, a5] := e
  have f2 : itRg1 (frz (fCal gLen (aOne (vP 0)))) [some (.imm (.lst (iL t))), none, some (.own (.l [])), some (.own (.dK [] [])), none, none] = .ok (iL (nats 0 t.length)) [some (.imm (.lst (iL t))), none, some (.own (.l [])), some (.own (.dK [] [])), none, none] := itRg1_ok (by omega) (by simp)
  have S1 : g_cycles_in_1 [some (.imm (.lst (iL t))), none, none, none, none, none] = .nx [some (.imm (.lst (iL t))), none, some (.own (.l [])), some (.own (.dK [] [])), none, none] := by simp
  have S2 : g_cycles_in_2 [some (.imm (.lst (iL t))), none, some (.own (.l [])), some (.own (.dK [] [])), none, none] = .nx [some (.imm (.lst (iL t))), a1, some (.own (.l (cL cs))), some (.own (.dK (kN cs.flatten) (trN cs.flatten))), a4, a5] := by
    show sFor (itRg1 (frz (fCal gLen (aOne (vP 0))))) (tName 1) g_cycles_in_2B _ = _
    rw [ap_sFor, f2, Res.bindS_ok]
    exact e'
  have s4 : ∀ G : FS, mir 6 1 G none [.lst (iL t)] = outR none (G [some (.imm (.lst (iL t))), none, none, none, none, none]) := fun G => by simp [mir, ini, ioS, ioN, List.replicate]
  unfold m_cycles_in g_cycles_in
  rw [s4, ap_sSeq, S1, SR.bind_nx, ap_sSeq, S2, SR.bind_nx]
  simp [outR, ioOut]
end
end K21

namespace K21
open PySem L2 TS
noncomputable section
-- needs: cycles
def sumsFrom (a : Int) : List Int → List Int
  | [] => [a]
  | x :: xs => a :: sumsFrom (a + x) xs
theorem sumsFrom_len (xs : List Int) : ∀ a, (sumsFrom a xs).length = xs.length + 1 := by
  induction xs with
  | nil => intro a; rfl
  | cons x xs ih => intro a; simp [sumsFrom, ih]
theorem atI_last (acc : List Int) (a : Int) : gIx (.lst (iL (acc ++ [a]))) (.int (-1)) = some (.imm (.int a)) := by
  rw [gIx_l, atI_ints]
  have : atI (acc ++ [a]) (-1) = some a := by
    unfold atI ixN
    have e1 : ¬ ((0 : Int) ≤ -1) := by decide
    rw [if_neg e1, if_pos (by simp; omega)]
    show (acc ++ [a])[(-1 + ((acc ++ [a]).length : Int)).toNat]? = some a
    rw [show (-1 + ((acc ++ [a]).length : Int)).toNat = acc.length by simp; omega]
    simp
  rw [this]; rfl
theorem rs_loop {x0 : Option TS.R} : ∀ (xs acc : List Int) (a : Int) (s2 : Option TS.R), acc.length + xs.length ≤ 100000 → ∃ s2', forL (tName 2) g_running_sums_2B (iL xs) [x0, some (.own (.l (iL (acc ++ [a])))), s2] = .nx [x0, some (.own (.l (iL (acc ++ sumsFrom a xs)))), s2'] := by
  intro xs
  induction xs with
  | nil => intro acc a s2 _; exact ⟨s2, rfl⟩
  | cons x xs ih =>
    intro acc a s2 hl
    obtain ⟨s2', e⟩ := ih (acc ++ [a]) (a + x) (some (.imm (.int x))) (by simp at hl ⊢; omega)
    refine ⟨s2', ?_⟩
    have e1 := atI_last acc a
    have e2 := mAppend_int (xs := acc ++ [a]) (by simp at hl ⊢; omega) (a + x)
    rw [show acc ++ sumsFrom a (x :: xs) = (acc ++ [a]) ++ sumsFrom (a + x) xs by simp [sumsFrom], ← e]
    generalize acc ++ [a] = A at *
    simp [iL_cons, forL, e1, e2, -gIx_l]
theorem running_sums_ok {xs : List Int} (hl : xs.length ≤ 90000) : m_running_sums none [.lst (iL xs)] = .ok (.own (.l (iL (sumsFrom 0 xs)))) none := by
  obtain ⟨s2', e⟩ := rs_loop (x0 := some (.imm (.lst (iL xs)))) xs [] 0 none (by simp; omega)
  have e' : forL (tName 2) g_running_sums_2B (iL xs) [some (.imm (.lst (iL xs))), some (.own (.l [.int 0])), none] = .nx [some (.imm (.lst (iL xs))), some (.own (.l (iL (sumsFrom 0 xs)))), s2'] := e
  generalize iL (sumsFrom 0 xs) = T at *
  simp [m_running_sums, mir, ini, ioS, ioN, outR, ioOut, g_running_sums, e']
theorem sumsFrom_get : ∀ (xs : List Int) (a : Int) (f : Nat → Int), f 0 = a → (∀ k x, xs[k]? = some x → f (k + 1) = f k + x) → ∀ k, k ≤ xs.length → (sumsFrom a xs)[k]? = some (f k)
  | [], a, f, h0, h, k, hk => by
    obtain rfl : k = 0 := by simpa using hk
    simp [sumsFrom, h0]
  | x :: xs, a, f, h0, h, 0, hk => by simp [sumsFrom, h0]
  | x :: xs, a, f, h0, h, k + 1, hk => by
    have e1 := h 0 x rfl
    simp only [sumsFrom, List.getElem?_cons_succ]
    exact sumsFrom_get xs (a + x) (fun k => f (k + 1)) (by rw [e1, h0]) (fun j y hy => h (j + 1) y (by simpa using hy)) k (by simpa using hk)
def cI (c : List Nat) : List Int := c.map fun j : Nat => (j : Int)
theorem nL_cI (c : List Nat) : nL c = iL (cI c) := by simp [nL, iL, cI]
theorem sumK_bd {t : List Int} {c : List Nat} {B : Int} (hb : ∀ x, -B < act t x ∧ act t x < B) : ∀ k : Nat, -(k * B) ≤ sumK t c k ∧ sumK t c k ≤ k * B
  | 0 => by simp [sumK]
  | k + 1 => by
    have ih := sumK_bd hb k (c := c)
    have := hb (c.getD (k % c.length) 0 : Nat)
    rw [sumK, Int.natCast_succ, Int.add_mul, Int.one_mul]
    omega
theorem ix_get {xs : List Int} {k : Nat} {y : Int} (h : xs[k]? = some y) : gIx (.lst (iL xs)) (.int (k : Int)) = some (.imm (.int y)) := by
  obtain ⟨hk, e⟩ := List.getElem?_eq_some_iff.mp h
  rw [gIx_ints hk, e]
end
end K21

namespace K21
open PySem L2 TS
noncomputable section
-- needs: lcm
theorem cdiv2_ok (a b : Int) : m_common_divisor none [.int a, .int b] = .ok (.imm (.int (Nat.gcd a.natAbs b.natAbs : Nat))) none := by
  have e1 := divisor_ok 0 a
  have e2 := divisor_ok ((Nat.gcd (0 : Int).natAbs a.natAbs : Nat) : Int) b
  have e3 : Nat.gcd (((Nat.gcd (0 : Int).natAbs a.natAbs : Nat) : Int)).natAbs b.natAbs = Nat.gcd a.natAbs b.natAbs := by simp
  rw [e3] at e2
  generalize ((Nat.gcd (0 : Int).natAbs a.natAbs : Nat) : Int) = z at *
  simp [m_common_divisor, fmStar, mir, ini, ioS, ioN, outR, ioOut, g_common_divisor, forL, require1_ok, e1, e2]
def low (a b : Int) : Int × Int := (a / (Nat.gcd a.natAbs b.natAbs : Nat), b / (Nat.gcd a.natAbs b.natAbs : Nat))
theorem low_ok {a b : Int} (hb : 0 < b) (h2 : b.natAbs < 2 ^ 255) : m_in_lowest_terms none [.int a, .int b] = .ok (.imm (.tup [.int (low a b).1, .int (low a b).2])) none := by
  have e := cdiv2_ok a b
  have gp : 0 < Nat.gcd a.natAbs b.natAbs := Nat.gcd_pos_of_pos_right _ (by omega)
  have gl : Nat.gcd a.natAbs b.natAbs ≤ b.natAbs := Nat.le_of_dvd (by omega) (Nat.gcd_dvd_right _ _)
  have d1 : ∀ i : Int, gFdiv (.int i) (.int ((Nat.gcd a.natAbs b.natAbs : Nat) : Int)) = some (.imm (.int (i / ((Nat.gcd a.natAbs b.natAbs : Nat) : Int)))) := fun i => gFdiv_i (by omega) (by omega)
  have nb : ¬ b < 0 := by omega
  unfold low
  generalize ((Nat.gcd a.natAbs b.natAbs : Nat) : Int) = g at *
  simp [m_in_lowest_terms, mir, ini, ioS, ioN, outR, ioOut, g_in_lowest_terms, e, d1, nb]
theorem ratio_ok {a b : Int} (hb : 0 < b) (h2 : b.natAbs < 2 ^ 255) : m_ratio none [.int a, .int b] = .ok (.imm (.tup [.int (low a b).1, .int (low a b).2])) none := by
  have e := low_ok (a := a) hb h2
  have nb : b ≠ 0 := by omega
  generalize (low a b).1 = x at *
  generalize (low a b).2 = y at *
  simp [m_ratio, mir, ini, ioS, ioN, outR, ioOut, g_ratio, require1_ok, e, nb]
end
end K21

namespace K21
open PySem L2 TS
noncomputable section
-- needs: plan
theorem period_prop (t : List Int) : m_Plan_period none [pl t] = .ok (.imm (.int ((least t).length : Int))) none := by
  simp [m_Plan_period, mir, ini, ioS, ioN, outR, ioOut, g_Plan_period, planD, ix_own_offsets]
end
end K21

namespace K21
open PySem L2 TS
noncomputable section
-- needs: power ratio pprop
def drf (s : List Int) (c : List Nat) : Int := sumK s c c.length / s.length
def sumsC (s : List Int) (c : List Nat) : List Int := sumsFrom 0 (c.map fun j : Nat => act s (j : Int))
def cyD (s : List Int) (n : Nat) (c : List Nat) : List D := [.int (n : Int), .tup (nL c), .int (s.length : Int), .lst (iL (sumsC s c)), .int (drf s c)]
abbrev cyO (s : List Int) (x : Nat × List Nat) : D := .obj 2 (cyD s x.1 x.2)
theorem sumsC_len (s : List Int) (c : List Nat) : (sumsC s c).length = c.length + 1 := by simp [sumsC, sumsFrom_len]
theorem sumsC_get {s : List Int} {c : List Nat} {k : Nat} (hk : k ≤ c.length) : (sumsC s c)[k]? = some (sumK s c k) :=
  sumsFrom_get _ 0 (sumK s c) rfl (fun k x hx => by
    rw [List.getElem?_map] at hx
    obtain ⟨j, hj, rfl⟩ := Option.map_eq_some_iff.mp hx
    have hk : k < c.length := (List.getElem?_eq_some_iff.mp hj).1
    rw [sumK, Nat.mod_eq_of_lt hk, List.getD_eq_getElem?_getD, hj]; rfl) k (by simpa using hk)
theorem sumK_dv {s : List Int} (h : Good s) {c : List Nat} (hc : Cyc s c) : sumK s c c.length % s.length = 0 := by
  have hne := hc.ne
  have h0 : c[0]? = some c[0] := List.getElem?_eq_getElem hne
  have e := sumG_rem hc h.pos h0 (c.length : Int)
  rw [sumG_nat hne, Int.emod_self] at e
  have e2 : c.getD (0 : Int).toNat 0 = c[0] := by
    show c.getD 0 0 = c[0]
    rw [List.getD_eq_getElem?_getD, h0]; rfl
  rw [e2] at e
  have hlt := hc.path.lt c[0] (List.getElem_mem hne)
  have e3 : ((c[0] : Nat) : Int) % s.length = c[0] := Int.emod_eq_of_lt (by omega) (by omega)
  rw [← e3] at e
  have := Int.emod_eq_emod_iff_emod_sub_eq_zero.mp e
  rw [e3] at this
  rwa [show ((c[0] : Nat) : Int) + sumK s c c.length - c[0] = sumK s c c.length by omega] at this
theorem drf_mul {s : List Int} (h : Good s) {c : List Nat} (hc : Cyc s c) : s.length * drf s c = sumK s c c.length := by
  unfold drf
  rw [Int.mul_comm]
  exact Int.ediv_mul_cancel_of_emod_eq_zero (sumK_dv h hc)
theorem cyc_le {s : List Int} {c : List Nat} (hc : Cyc s c) : c.length ≤ s.length := nd_le _ _ hc.nd hc.path.lt
theorem drf_bd {s : List Int} (h : Good s) (hb : ∀ x, -(2 ^ 200 : Int) < act s x ∧ act s x < 2 ^ 200) {c : List Nat} (hc : Cyc s c) : (drf s c).natAbs < 2 ^ 214 ∧ ((s.length : Int) * drf s c).natAbs < 2 ^ 214 := by
  have b := sumK_bd hb (c := c) c.length
  have l1 := cyc_le hc
  have l2 := h.len
  have l3 := h.pos
  have bm : (c.length : Int) * 2 ^ 200 ≤ 2520 * 2 ^ 200 := Int.mul_le_mul_of_nonneg_right (by omega) (by decide)
  have e := drf_mul h hc
  have c1 : ((s.length : Int) * drf s c).natAbs < 2 ^ 214 := by rw [e]; omega
  refine ⟨?_, c1⟩
  rw [Int.natAbs_mul] at c1
  have : (drf s c).natAbs ≤ (s.length : Int).natAbs * (drf s c).natAbs := Nat.le_mul_of_pos_left _ (by omega)
  omega
theorem ix_last {xs : List Int} {y : Int} (h0 : 0 < xs.length) (h : xs[xs.length - 1]? = some y) : gIx (.lst (iL xs)) (.int (-1)) = some (.imm (.int y)) := by
  have e : xs = xs.dropLast ++ [y] := by
    have := List.dropLast_concat_getLast (l := xs) (by intro z; rw [z] at h0; simp at h0)
    rw [List.getLast_eq_getElem] at this
    rw [List.getElem?_eq_getElem (by omega)] at h
    rw [Option.some.inj h] at this
    exact this.symm
  rw [e]
  exact atI_last _ _
theorem cycle_init_ok {s : List Int} (h : Good s) {c : List Nat} (hc : Cyc s c) (n : Nat) : m_Cycle___init__ (some (.o 2 [])) [.int (n : Int), .lst (nL c), .lst (iL s)] = .ok (.imm .non) (some (.o 2 (cyD s n c))) := by
  have hl := h.len
  have hp := h.pos
  have hcl := cyc_le hc
  have q := lc_ints (i := 4) (fi := itSeq (vI 2)) (fe := frz (fBin gIx (vI 3) (vP 4))) (xs := cI c) (act s)
    (δ := [some (.brw (.o 2 [.int (n : Int), .tup (nL c), .int (s.length : Int)])), some (.imm (.int (n : Int))), some (.imm (.lst (nL c))), some (.imm (.lst (iL s))), none]) (δ1 := [some (.brw (.o 2 [.int (n : Int), .tup (nL c), .int (s.length : Int)])), some (.imm (.int (n : Int))), some (.imm (.lst (nL c))), some (.imm (.lst (iL s))), none])
    (by simp [nL_cI]) rfl (by simp [cI]; omega) (fun x hx => by
      unfold cI at hx
      obtain ⟨j, hj, rfl⟩ := List.mem_map.mp hx
      have ix := ix_get (act_get' (hc.path.lt j hj))
      simp [ix, -gIx_l])
  have e1 : (cI c).map (act s) = c.map fun j : Nat => act s (j : Int) := by simp [cI, Function.comp_def]
  rw [e1] at q
  have rs := running_sums_ok (xs := c.map fun j : Nat => act s (j : Int)) (by simp; omega)
  have gt : gTuple [.lst (nL c)] = some (.imm (.tup (nL c))) := rfl
  have il : gIx (.lst (iL (sumsC s c))) (.int (-1)) = some (.imm (.int (sumK s c c.length))) := ix_last (by rw [sumsC_len]; omega) (by rw [sumsC_len]; exact sumsC_get (Nat.le_refl _))
  have dv : gFdiv (.int (sumK s c c.length)) (.int (s.length : Int)) = some (.imm (.int (drf s c))) := gFdiv_i (by omega) (by omega)
  have es : sumsFrom 0 (c.map fun j : Nat => act s (j : Int)) = sumsC s c := rfl
  rw [es] at rs
  unfold cyD
  generalize sumsC s c = S at *
  generalize sumK s c c.length = K at *
  generalize drf s c = dd at *
  generalize (c.map fun j : Nat => act s (j : Int)) = A at *
  generalize nL c = C at *
  (unfold m_Cycle___init__ g_Cycle___init__; unfold mir; rw [if_pos (by simp [ioN])]; simp only [ini, ioS, ioN, List.replicate, List.map_cons, List.map_nil, List.length_cons, List.length_nil, List.nil_append, List.cons_append, Nat.zero_add, Nat.reduceAdd, Nat.reduceSub])
  (rw [ap_sSeq]; (conv in (SR.bind _ _) => (arg 1; simp [ix_own_number, setF])); (try rw [SR.bind_nx]))
  (rw [ap_sSeq]; (conv in (SR.bind _ _) => (arg 1; simp [gt, ix_own_remainders, setF])); (try rw [SR.bind_nx]))
  (rw [ap_sSeq]; (conv in (SR.bind _ _) => (arg 1; simp [ix_own_period, setF])); (try rw [SR.bind_nx]))
  (rw [ap_sSeq]; (conv in (SR.bind _ _) => (arg 1; simp [q, rs, ix_own_sums, setF])); (try rw [SR.bind_nx]))
  simp [outR, ioOut, il, dv, ix_own_drift, ix_own_sums, ix_own_period, setF, -gIx_l]
theorem told_ok (s : List Int) (x : Nat × List Nat) : m_Cycle_told none [cyO s x] = .ok (.imm (.tup [.tup (nL x.2), .int (drf s x.2)])) none := by
  simp [m_Cycle_told, mir, ini, ioS, ioN, outR, ioOut, g_Cycle_told, cyD, ix_own_remainders, ix_own_drift]
theorem lap_okC (s : List Int) (x : Nat × List Nat) : m_Cycle_lap none [cyO s x] = .ok (.imm (.int (x.2.length : Int))) none := by
  have e : gLen [.tup (nL x.2)] = some (.imm (.int (x.2.length : Int))) := by simp [gLen, lenD, nL]
  simp [m_Cycle_lap, mir, ini, ioS, ioN, outR, ioOut, g_Cycle_lap, cyD, ix_own_remainders, e]
theorem lines_okC (s : List Int) (x : Nat × List Nat) : m_Cycle_lines_here none [cyO s x] = .ok (.imm (.int ((drf s x.2).natAbs : Int))) none := by
  have e : gAbs [.int (drf s x.2)] = some (.imm (.int ((drf s x.2).natAbs : Int))) := by simp [gAbs, ifabs]
  simp [m_Cycle_lines_here, mir, ini, ioS, ioN, outR, ioOut, g_Cycle_lines_here, cyD, ix_own_drift, e]
def spd (s : List Int) (c : List Nat) : Int × Int := low (s.length * drf s c) c.length
theorem speed_okC {s : List Int} (h : Good s) (hb : ∀ x, -(2 ^ 200 : Int) < act s x ∧ act s x < 2 ^ 200) {x : Nat × List Nat} (hc : Cyc s x.2) : m_Cycle_mean_speed none [cyO s x] = .ok (.imm (.tup [.int (spd s x.2).1, .int (spd s x.2).2])) none := by
  have hl := h.len
  have b := drf_bd h hb hc
  have m := gMul_i (i := (s.length : Int)) (j := drf s x.2) (by omega) (by omega)
  have e1 := lap_okC s x
  have hcl := cyc_le hc
  have hne := hc.ne
  have e2 := ratio_ok (a := s.length * drf s x.2) (b := (x.2.length : Int)) (by omega) (by omega)
  unfold spd
  generalize (low (s.length * drf s x.2) x.2.length).1 = u at *
  generalize (low (s.length * drf s x.2) x.2.length).2 = v at *
  have e1' : m_Cycle_lap none [.obj 2 [.int (x.1 : Int), .tup (nL x.2), .int (s.length : Int), .lst (iL (sumsC s x.2)), .int (drf s x.2)]] = .ok (.imm (.int (x.2.length : Int))) none := e1
  simp [m_Cycle_mean_speed, mir, ini, ioS, ioN, outR, ioOut, g_Cycle_mean_speed, cyD, ix_own_period, ix_own_drift, tab_lap, m, e1', e2]
def zs (cs : List (List Nat)) : List (Nat × List Nat) := (List.range cs.length).map fun n => (n, cs.getD n [])
theorem zs_get (cs : List (List Nat)) (n : Nat) : (zs cs)[n]? = (cs[n]?).map fun c => (n, c) := by
  unfold zs
  rw [List.getElem?_map]
  by_cases h : n < cs.length
  · rw [List.getElem?_range h, List.getElem?_eq_getElem h]
    simp [List.getD_eq_getElem?_getD, h]
  · rw [List.getElem?_eq_none (by simpa using h), List.getElem?_eq_none (by omega)]; rfl
theorem zs_len (cs : List (List Nat)) : (zs cs).length = cs.length := by simp [zs]
theorem zs_snd (cs : List (List Nat)) : (zs cs).map (·.2) = cs := by
  apply List.ext_getElem?
  intro n
  rw [List.getElem?_map, zs_get, Option.map_map]
  cases cs[n]? <;> rfl
def keyR (s : List Int) (x : Nat × List Nat) : Option Key := if drf s x.2 = 0 then some (.inl (x.2.length : Int)) else none
def keyL (s : List Int) (x : Nat × List Nat) : Option (List Key) := if drf s x.2 = 0 then none else some [.inl (spd s x.2).1, .inl (spd s x.2).2]
def grp {κ : Type} [DecidableEq κ] (f : Nat × List Nat → Option κ) (xs : List (Nat × List Nat)) (k : κ) : List (Nat × List Nat) := xs.filter fun x => decide (f x = some k)
def rowD (s : List Int) (ys : List (Nat × List Nat)) : Option (List D) := if ys = [] then none else some (ys.map (cyO s))
def ahd (s : List Int) (pre : List (Nat × List Nat)) (x : Nat × List Nat) : Int := if drf s x.2 = 0 then ((grp (keyR s) pre (.inl (x.2.length : Int))).length : Int) else ((grp (keyL s) pre [.inl (spd s x.2).1, .inl (spd s x.2).2]).map fun y => ((drf s y.2).natAbs : Int)).sum
structure TrI (s : List Int) (xs : List (Nat × List Nat)) (sk : List Key) (sv : List D) (L : List (List Key × List D)) (R : List (Key × List D)) (ak : List Key) (av : List D) : Prop where
  kl : sk.length = sv.length
  sn : sv.length ≤ (xs.map (·.2)).flatten.length
  al : ak.length = av.length
  an : av.length ≤ xs.length
  Ln : L.length ≤ xs.length
  Rn : R.length ≤ xs.length
  sp : ∀ x ∈ xs, ∀ (i r : Nat), x.2[i]? = some r → lookD sk sv (.inl (r : Int)) = some (.tup [cyO s x, .int (i : Int)])
  ln : ∀ k, lkR L k = rowD s (grp (keyL s) xs k)
  rn : ∀ k, lkR R k = rowD s (grp (keyR s) xs k)
  ah : ∀ pre x post, xs = pre ++ x :: post → lookD ak av (.inl (x.1 : Int)) = some (.int (ahd s pre x))
theorem grp_app {κ : Type} [DecidableEq κ] (f : Nat × List Nat → Option κ) (xs : List (Nat × List Nat)) (x : Nat × List Nat) (k : κ) : grp f (xs ++ [x]) k = if f x = some k then grp f xs k ++ [x] else grp f xs k := by
  unfold grp
  rw [List.filter_append]
  by_cases h : f x = some k <;> simp [h]
theorem rowD_app (s : List Int) (ys : List (Nat × List Nat)) (x : Nat × List Nat) : rowD s (ys ++ [x]) = some (((rowD s ys).getD []) ++ [cyO s x]) := by
  unfold rowD
  rw [if_neg (by simp)]
  by_cases h : ys = []
  · subst h; simp
  · rw [if_neg h]; simp
theorem rowD_get (s : List Int) (ys : List (Nat × List Nat)) : (rowD s ys).getD [] = ys.map (cyO s) := by
  unfold rowD
  by_cases h : ys = []
  · subst h; simp
  · rw [if_neg h]; rfl
abbrev trS (s : List Int) (q : D) (sl : Sl) (sk : List Key) (sv : List D) (L : List (List Key × List D)) (R : List (Key × List D)) (ak : List Key) (av : List D) (al : Option (Nat × Nat)) : NS := ⟨sl, 3, [.d (.int (s.length : Int)), .d q, .dk sk sv, .rt L, .rk R, .dk ak av], al⟩
theorem tr_spots {s : List Int} {q d1 d2 : D} {L : List (List Key × List D)} {R : List (Key × List D)} {ak : List Key} {av : List D} {al : Option (Nat × Nat)} {x : Nat × List Nat} {d3 d5 d6 : D} : ∀ (c : List Nat) (i : Nat) (sk : List Key) (sv : List D) (a7 a8 : Option TS.R), isI a7 = true → isI a8 = true → sk.length = sv.length → sv.length + c.length ≤ 10000 → c.Nodup →
    ∃ sk' sv' a7' a8', isI a7' = true ∧ isI a8' = true ∧ sk'.length = sv'.length ∧ sv'.length ≤ sv.length + c.length ∧ (∀ k, (∀ r ∈ c, k ≠ Sum.inl (r : Int)) → lookD sk' sv' k = lookD sk sv k) ∧ (∀ (j r : Nat), c[j]? = some r → lookD sk' sv' (Sum.inl (r : Int)) = some (.tup [cyO s x, .int ((i + j : Nat) : Int)])) ∧
      nForL 7 8 g_Tracks___init___N_5B_2B (enumD i (nL c)) (trS s q [none, some (.imm d1), some (.imm d2), some (.imm d3), some (.imm (cyO s x)), some (.imm d5), some (.imm d6), a7, a8, none, none] sk sv L R ak av al) = some (trS s q [none, some (.imm d1), some (.imm d2), some (.imm d3), some (.imm (cyO s x)), some (.imm d5), some (.imm d6), a7', a8', none, none] sk' sv' L R ak av al) := by
  intro c
  induction c with
  | nil => intro i sk sv a7 a8 h7 h8 hl _ _; exact ⟨sk, sv, a7, a8, h7, h8, hl, by simp, fun _ _ => rfl, fun j r h => by simp at h, rfl⟩
  | cons r c ih =>
    intro i sk sv a7 a8 h7 h8 hl hn hnd
    obtain ⟨p1, p2, p3⟩ := look_put (ks := sk) (ds := sv) (Sum.inl (r : Int) : Key) (.tup [cyO s x, .int (i : Int)]) hl
    rw [List.length_cons] at hn
    rw [List.nodup_cons] at hnd
    obtain ⟨sk', sv', a7', a8', g7, g8, gl, gn, k1, k2, e⟩ := ih (i + 1) _ _ (some (.imm (.int (i : Int)))) (some (.imm (.int (r : Int)))) rfl rfl p2 (by omega) hnd.2
    refine ⟨sk', sv', a7', a8', g7, g8, gl, by rw [List.length_cons]; omega, fun k hk => ?_, fun j r' hj => ?_, ?_⟩
    · rw [k1 k (fun r' hr' => hk r' (by simp [hr'])), p1 k, if_neg (hk r (by simp))]
    · cases j with
      | zero =>
        simp at hj
        subst hj
        rw [k1 _ (fun r' hr' z => by
          have z2 : r = r' := by injection z with z3; omega
          exact hnd.1 (z2 ▸ hr')), p1, if_pos rfl]
        rfl
      | succ j =>
        rw [k2 j r' (by simpa using hj), show i + 1 + j = i + (j + 1) by omega]
    · rw [← e]
      have hlt : sv.length < 16777216 := by omega
      generalize hX : cyO s x = X at *
      simp [nL, enumD, nForL, set2, nStore, runI, nPut, immS_cons, immS_nil, noneAt, h7, h8, ix_own_spots, TS.keyOf, hlt]
theorem tr_sum {s : List Int} (ys : List (Nat × List Nat)) (hy : ys.length ≤ 10000) {b0 b1 b2 b3 b4 b5 b6 b7 b8 : Option TS.R} : frz (fCal gSum (aOne (frz (fLc (stName 10) [10] (itSeq (vI 9)) tTrue (frz (fMeth tab_lines_here (vI 10) aNil)))))) [b0, b1, b2, b3, b4, b5, b6, b7, b8, some (.imm (.lst (ys.map (cyO s)))), none] = .ok (.int ((ys.map fun y => ((drf s y.2).natAbs : Int)).sum)) [b0, b1, b2, b3, b4, b5, b6, b7, b8, some (.imm (.lst (ys.map (cyO s)))), none] := by
  have q := lc_map (xs := ys) (inj := cyO s) (fun y => .int ((drf s y.2).natAbs : Int)) (i := 10) (fi := itSeq (vI 9)) (fe := frz (fMeth tab_lines_here (vI 10) aNil)) (δ := [b0, b1, b2, b3, b4, b5, b6, b7, b8, some (.imm (.lst (ys.map (cyO s)))), none]) (δ1 := [b0, b1, b2, b3, b4, b5, b6, b7, b8, some (.imm (.lst (ys.map (cyO s)))), none]) (by simp) rfl (by omega) (fun y _ => by
    have e := lines_okC s y
    simp [tab_lines_here, e])
  have e : (ys.map fun y => D.int ((drf s y.2).natAbs : Int)) = iL (ys.map fun y => ((drf s y.2).natAbs : Int)) := by simp [iL, Function.comp_def]
  rw [e] at q
  have g := gSum_l (ys.map fun y => ((drf s y.2).natAbs : Int))
  generalize (ys.map fun y => ((drf s y.2).natAbs : Int)) = N at *
  generalize ys.map (cyO s) = Y at *
  simp [q, g]
theorem tr_turn {s : List Int} (h : Good s) (hb : ∀ x, -(2 ^ 200 : Int) < act s x ∧ act s x < 2 ^ 200) {q d1 d2 : D} {xs : List (Nat × List Nat)} {x : Nat × List Nat} (hc : Cyc s x.2) (hx : ∀ y ∈ xs, y.1 ≠ x.1) (hnew : ∀ y ∈ xs, ∀ r ∈ y.2, r ∉ x.2) (hxl : xs.length ≤ 2520) (hfl : (xs.map (·.2)).flatten.length ≤ 2520) {sk : List Key} {sv : List D} {L : List (List Key × List D)} {R : List (Key × List D)} {ak : List Key} {av : List D} (I : TrI s xs sk sv L R ak av) {al : Option (Nat × Nat)} {a5 a6 a7 a8 : Option TS.R} (h5 : isI a5 = true) (h6 : isI a6 = true) (h7 : isI a7 = true) (h8 : isI a8 = true) :
    ∃ sk' sv' L' R' ak' av' al' a5' a6' a7' a8', isI a5' = true ∧ isI a6' = true ∧ isI a7' = true ∧ isI a8' = true ∧ TrI s (xs ++ [x]) sk' sv' L' R' ak' av' ∧
      g_Tracks___init___N_5B (trS s q [none, some (.imm d1), some (.imm d2), some (.imm (.int (x.1 : Int))), some (.imm (cyO s x)), a5, a6, a7, a8, none, none] sk sv L R ak av al) = some (trS s q [none, some (.imm d1), some (.imm d2), some (.imm (.int (x.1 : Int))), some (.imm (cyO s x)), a5', a6', a7', a8', none, none] sk' sv' L' R' ak' av' al') := by
  have hcl := cyc_le hc
  have hsl := h.len
  have kn := I.sn
  obtain ⟨sk', sv', a7', a8', g7, g8, gl, gn, k1, k2, e2⟩ := tr_spots (s := s) (q := q) (d1 := d1) (d2 := d2) (L := L) (R := R) (ak := ak) (av := av) (al := al) (x := x) (d3 := .int (x.1 : Int)) (d5 := .tup (nL x.2)) (d6 := .int (drf s x.2)) x.2 0 sk sv a7 a8 h7 h8 I.kl (by omega) hc.nd
  have e1 := told_ok s x
  have E1 : g_Tracks___init___N_5B_1 (trS s q [none, some (.imm d1), some (.imm d2), some (.imm (.int (x.1 : Int))), some (.imm (cyO s x)), a5, a6, a7, a8, none, none] sk sv L R ak av al) = some (trS s q [none, some (.imm d1), some (.imm d2), some (.imm (.int (x.1 : Int))), some (.imm (cyO s x)), some (.imm (.tup (nL x.2))), some (.imm (.int (drf s x.2))), a7, a8, none, none] sk sv L R ak av al) := by
    generalize nL x.2 = C at *
    simp [nAsg2, runI, tab_told, e1, immS_cons, immS_nil, noneAt, h5, h6, h7, h8, set2]
  have E2 : g_Tracks___init___N_5B_2 (trS s q [none, some (.imm d1), some (.imm d2), some (.imm (.int (x.1 : Int))), some (.imm (cyO s x)), some (.imm (.tup (nL x.2))), some (.imm (.int (drf s x.2))), a7, a8, none, none] sk sv L R ak av al) = some (trS s q [none, some (.imm d1), some (.imm d2), some (.imm (.int (x.1 : Int))), some (.imm (cyO s x)), some (.imm (.tup (nL x.2))), some (.imm (.int (drf s x.2))), a7', a8', none, none] sk' sv' L R ak av al) := by
    rw [← e2]
    simp [nForG, runA, itEnumLT, immS_cons, immS_nil, noneAt, h7, h8]
  have sp' : ∀ y ∈ xs ++ [x], ∀ (i r : Nat), y.2[i]? = some r → lookD sk' sv' (.inl (r : Int)) = some (.tup [cyO s y, .int (i : Int)]) := fun y hy i r hr => by
    rcases List.mem_append.mp hy with z | z
    · rw [k1 _ (fun r' hr' w => by
        have w2 : r = r' := by injection w with w3; omega
        exact hnew y z r (List.mem_of_getElem? hr) (w2 ▸ hr'))]
      exact I.sp y z i r hr
    · rw [List.mem_singleton] at z
      subst z
      rw [k2 i r hr, Nat.zero_add]
  have snn : sv'.length ≤ ((xs ++ [x]).map (·.2)).flatten.length := by simp at gn ⊢; simp at kn; omega
  obtain ⟨p1, p2, p3⟩ := look_put (ks := ak) (ds := av) (Sum.inl (x.1 : Int) : Key) (.int (ahd s xs x)) I.al
  have ah' : ∀ pre y post, xs ++ [x] = pre ++ y :: post → lookD (putD ak av (Sum.inl (x.1 : Int) : Key) (.int (ahd s xs x))).1 (putD ak av (Sum.inl (x.1 : Int) : Key) (.int (ahd s xs x))).2 (.inl (y.1 : Int)) = some (.int (ahd s pre y)) := fun pre y post e => by
    rw [p1]
    rcases List.eq_nil_or_concat post with z | ⟨post', w, z⟩
    · subst z
      have := List.append_inj' e rfl
      obtain ⟨rfl, z2⟩ := this
      cases z2
      rw [if_pos rfl]
    · subst z
      have e' : xs ++ [x] = (pre ++ y :: post') ++ [w] := by rw [e]; simp
      obtain ⟨z1, z2⟩ := List.append_inj' e' rfl
      have hy : y ∈ xs := by rw [z1]; simp
      rw [if_neg (fun w => hx y hy (by injection w with w3; omega))]
      exact I.ah pre y post' z1
  have hav : av.length < 16777216 := by have := I.an; omega
  have hRn := I.Rn
  have hLn := I.Ln
  have grl : ∀ {κ : Type} [DecidableEq κ] (f : Nat × List Nat → Option κ) (k : κ), (grp f xs k).length ≤ 2520 := fun f k => Nat.le_trans (List.length_filter_le _ _) hxl
  by_cases hz : drf s x.2 = 0
  · have kR : keyR s x = some (.inl (x.2.length : Int)) := by unfold keyR; rw [if_pos hz]
    have kL : ∀ k, keyL s x ≠ some k := fun k => by unfold keyL; rw [if_pos hz]; exact fun z => by cases z
    have ha : ahd s xs x = ((grp (keyR s) xs (.inl (x.2.length : Int))).length : Int) := by unfold ahd; rw [if_pos hz]
    have rk := I.rn (.inl (x.2.length : Int))
    have gr := rowD_get s (grp (keyR s) xs (.inl (x.2.length : Int)))
    have ln' : ∀ k, lkR L k = rowD s (grp (keyL s) (xs ++ [x]) k) := fun k => by rw [grp_app, if_neg (kL k)]; exact I.ln k
    have fin : ∀ R' : List (Key × List D), R'.length ≤ xs.length + 1 → (∀ k', lkR R' k' = if k' = (.inl (x.2.length : Int) : Key) then some ((grp (keyR s) xs (.inl (x.2.length : Int))).map (cyO s) ++ [cyO s x]) else lkR R k') → TrI s (xs ++ [x]) sk' sv' L R' (putD ak av (Sum.inl (x.1 : Int) : Key) (.int (ahd s xs x))).1 (putD ak av (Sum.inl (x.1 : Int) : Key) (.int (ahd s xs x))).2 := fun R' hR hk => ⟨gl, snn, p2, by have := I.an; simp; omega, by simp; omega, by simpa using hR, sp', ln', fun k => by
      rw [hk k, grp_app]
      by_cases w : k = (.inl (x.2.length : Int) : Key)
      · subst w
        rw [if_pos rfl, if_pos kR, rowD_app, gr]
      · rw [if_neg w, if_neg (fun z => w (by rw [kR] at z; exact (Option.some.inj z).symm))]
        exact I.rn k, ah'⟩
    have gle : gLen [.tup (nL x.2)] = some (.imm (.int (x.2.length : Int))) := by simp [gLen, lenD, nL]
    rcases row_cases R (.inl (x.2.length : Int) : Key) with ⟨e, y, c1, c2, c3, c4, c5⟩ | ⟨c1, c2, c3⟩
    · have ey : y.2 = (grp (keyR s) xs (.inl (x.2.length : Int))).map (cyO s) := by
        rw [rk] at c4; rw [c4] at gr; exact gr
      have hel : e < R.length := (List.getElem?_eq_some_iff.mp c2).1
      refine ⟨sk', sv', L, R.set e (y.1, y.2 ++ [cyO s x]), _, _, some (4, e), some (.imm (.tup (nL x.2))), some (.imm (.int (drf s x.2))), a7', a8', rfl, rfl, g7, g8, fin _ (by simp; omega) (fun k' => by rw [c5, ey]), ?_⟩
      rw [show g_Tracks___init___N_5B = nSeq g_Tracks___init___N_5B_1 (nSeq g_Tracks___init___N_5B_2 (nSeq g_Tracks___init___N_5B_3 g_Tracks___init___N_5B_4)) from rfl]
      simp only [nSeq, E1, E2, Option.bind_some]
      have hyl : (y.2.length : Int) = ahd s xs x := by rw [ey, ha]; simp
      have hy3 : y.2.length < 16777216 := by rw [ey, List.length_map]; have := grl (keyR s) (.inl (x.2.length : Int)); omega
      generalize hX : cyO s x = X at *
      generalize nL x.2 = C at *
      have hR3 : R.length < 16777216 := by omega
      rw [← hyl]
      simp [nIf, runT, hz, immS_cons, immS_nil, noneAt, g7, g8, nSeq, nSetd, runI, gle, ix_own_round_cycles, TS.keyOf, unK, c1, hR3, nStoreR, TS.rowOf, c2, nPut, ix_own_ahead, hav, nApp, TS.setRow, hy3, flatD]
    · have ey : (grp (keyR s) xs (.inl (x.2.length : Int))).map (cyO s) = [] := by
        rw [rk] at c2; rw [c2] at gr; exact gr.symm
      refine ⟨sk', sv', L, R ++ [(.inl (x.2.length : Int), [cyO s x])], _, _, some (4, R.length), some (.imm (.tup (nL x.2))), some (.imm (.int (drf s x.2))), a7', a8', rfl, rfl, g7, g8, fin _ (by simp; omega) (fun k' => by rw [c3, ey]; rfl), ?_⟩
      rw [show g_Tracks___init___N_5B = nSeq g_Tracks___init___N_5B_1 (nSeq g_Tracks___init___N_5B_2 (nSeq g_Tracks___init___N_5B_3 g_Tracks___init___N_5B_4)) from rfl]
      simp only [nSeq, E1, E2, Option.bind_some]
      have hyl : (0 : Int) = ahd s xs x := by
        rw [ha]
        have := congrArg List.length ey
        rw [List.length_map] at this
        rw [this]; rfl
      generalize hX : cyO s x = X at *
      generalize nL x.2 = C at *
      have hR3 : R.length < 16777216 := by omega
      rw [← hyl]
      simp [nIf, runT, hz, immS_cons, immS_nil, noneAt, g7, g8, nSeq, nSetd, runI, gle, ix_own_round_cycles, TS.keyOf, unK, c1, hR3, nStoreR, TS.rowOf, nPut, ix_own_ahead, hav, nApp, TS.setRow, flatD]
  · have kL : keyL s x = some [.inl (spd s x.2).1, .inl (spd s x.2).2] := by unfold keyL; rw [if_neg hz]
    have kR : ∀ k, keyR s x ≠ some k := fun k => by unfold keyR; rw [if_neg hz]; exact fun z => by cases z
    have ha : ahd s xs x = ((grp (keyL s) xs [.inl (spd s x.2).1, .inl (spd s x.2).2]).map fun y => ((drf s y.2).natAbs : Int)).sum := by unfold ahd; rw [if_neg hz]
    have rk := I.ln [.inl (spd s x.2).1, .inl (spd s x.2).2]
    have gr := rowD_get s (grp (keyL s) xs [.inl (spd s x.2).1, .inl (spd s x.2).2])
    have rn' : ∀ k, lkR R k = rowD s (grp (keyR s) (xs ++ [x]) k) := fun k => by rw [grp_app, if_neg (kR k)]; exact I.rn k
    have fin : ∀ L' : List (List Key × List D), L'.length ≤ xs.length + 1 → (∀ k', lkR L' k' = if k' = ([.inl (spd s x.2).1, .inl (spd s x.2).2] : List Key) then some ((grp (keyL s) xs [.inl (spd s x.2).1, .inl (spd s x.2).2]).map (cyO s) ++ [cyO s x]) else lkR L k') → TrI s (xs ++ [x]) sk' sv' L' R (putD ak av (Sum.inl (x.1 : Int) : Key) (.int (ahd s xs x))).1 (putD ak av (Sum.inl (x.1 : Int) : Key) (.int (ahd s xs x))).2 := fun L' hL hk => ⟨gl, snn, p2, by have := I.an; simp; omega, by simpa using hL, by simp; omega, sp', fun k => by
      rw [hk k, grp_app]
      by_cases w : k = ([.inl (spd s x.2).1, .inl (spd s x.2).2] : List Key)
      · subst w
        rw [if_pos rfl, if_pos kL, rowD_app, gr]
      · rw [if_neg w, if_neg (fun z => w (by rw [kL] at z; exact (Option.some.inj z).symm))]
        exact I.ln k, rn', ah'⟩
    have es := speed_okC h hb (x := x) hc
    have hsum := tr_sum (s := s) (grp (keyL s) xs [.inl (spd s x.2).1, .inl (spd s x.2).2]) (by have := grl (keyL s) [.inl (spd s x.2).1, .inl (spd s x.2).2]; omega) (b0 := none) (b1 := some (.imm d1)) (b2 := some (.imm d2)) (b3 := some (.imm (.int (x.1 : Int)))) (b4 := some (.imm (cyO s x))) (b5 := some (.imm (.tup (nL x.2)))) (b6 := some (.imm (.int (drf s x.2)))) (b7 := a7') (b8 := a8')
    rw [← ha] at hsum
    have ex : ∀ δ : Sl, δ[4]? = some (some (.imm (cyO s x))) → frz (fMeth tab_mean_speed (vI 4) aNil) δ = .ok (.tup [.int (spd s x.2).1, .int (spd s x.2).2]) δ := fun δ hd => by
      simp [hd, tab_mean_speed, es]
    generalize (spd s x.2).1 = u at *
    generalize (spd s x.2).2 = v at *
    rcases row_cases L ([.inl u, .inl v] : List Key) with ⟨e, y, c1, c2, c3, c4, c5⟩ | ⟨c1, c2, c3⟩
    · have ey : y.2 = (grp (keyL s) xs [.inl u, .inl v]).map (cyO s) := by
        rw [rk] at c4; rw [c4] at gr; exact gr
      have hel : e < L.length := (List.getElem?_eq_some_iff.mp c2).1
      refine ⟨sk', sv', L.set e (y.1, y.2 ++ [cyO s x]), R, _, _, some (3, e), some (.imm (.tup (nL x.2))), some (.imm (.int (drf s x.2))), a7', a8', rfl, rfl, g7, g8, fin _ (by simp; omega) (fun k' => by rw [c5, ey]), ?_⟩
      rw [show g_Tracks___init___N_5B = nSeq g_Tracks___init___N_5B_1 (nSeq g_Tracks___init___N_5B_2 (nSeq g_Tracks___init___N_5B_3 g_Tracks___init___N_5B_4)) from rfl]
      simp only [nSeq, E1, E2, Option.bind_some]
      have hy3 : y.2.length < 16777216 := by rw [ey, List.length_map]; have := grl (keyL s) [.inl u, .inl v]; omega
      rw [← ey] at hsum
      have ex' := ex [none, some (.imm d1), some (.imm d2), some (.imm (.int (x.1 : Int))), some (.imm (cyO s x)), some (.imm (.tup (nL x.2))), some (.imm (.int (drf s x.2))), a7', a8', none, none] rfl
      generalize hX : cyO s x = X at *
      generalize nL x.2 = C at *
      have hR3 : L.length < 16777216 := by omega
      unfold g_Tracks___init___N_5B_3 g_Tracks___init___N_5B_3b_1 g_Tracks___init___N_5B_3b_2
      generalize hsm : (frz (fCal gSum (aOne (frz (fLc (stName 10) [10] (itSeq (vI 9)) tTrue (frz (fMeth tab_lines_here (vI 10) aNil))))))) = SM at *
      generalize hms : (frz (fMeth tab_mean_speed (vI 4) aNil)) = MS at *
      simp [nIf, runT, hz, immS_cons, immS_nil, noneAt, g7, g8, nSeq, nSetd, runI, ex', ix_own_line_cycles, TS.keyOf, keysOf, keyT, unT, c1, hR3, nStoreR, TS.rowOf, c2, hsum, nPut, ix_own_ahead, hav, nApp, TS.setRow, hy3, flatD]
    · have ey : (grp (keyL s) xs [.inl u, .inl v]).map (cyO s) = [] := by
        rw [rk] at c2; rw [c2] at gr; exact gr.symm
      refine ⟨sk', sv', L ++ [([.inl u, .inl v], [cyO s x])], R, _, _, some (3, L.length), some (.imm (.tup (nL x.2))), some (.imm (.int (drf s x.2))), a7', a8', rfl, rfl, g7, g8, fin _ (by simp; omega) (fun k' => by rw [c3, ey]; rfl), ?_⟩
      rw [show g_Tracks___init___N_5B = nSeq g_Tracks___init___N_5B_1 (nSeq g_Tracks___init___N_5B_2 (nSeq g_Tracks___init___N_5B_3 g_Tracks___init___N_5B_4)) from rfl]
      simp only [nSeq, E1, E2, Option.bind_some]
      rw [ey] at hsum
      have ex' := ex [none, some (.imm d1), some (.imm d2), some (.imm (.int (x.1 : Int))), some (.imm (cyO s x)), some (.imm (.tup (nL x.2))), some (.imm (.int (drf s x.2))), a7', a8', none, none] rfl
      generalize hX : cyO s x = X at *
      generalize nL x.2 = C at *
      have hR3 : L.length < 16777216 := by omega
      unfold g_Tracks___init___N_5B_3 g_Tracks___init___N_5B_3b_1 g_Tracks___init___N_5B_3b_2
      generalize hsm : (frz (fCal gSum (aOne (frz (fLc (stName 10) [10] (itSeq (vI 9)) tTrue (frz (fMeth tab_lines_here (vI 10) aNil))))))) = SM at *
      generalize hms : (frz (fMeth tab_mean_speed (vI 4) aNil)) = MS at *
      simp [nIf, runT, hz, immS_cons, immS_nil, noneAt, g7, g8, nSeq, nSetd, runI, ex', ix_own_line_cycles, TS.keyOf, keysOf, keyT, unT, c1, hR3, nStoreR, TS.rowOf, hsum, nPut, ix_own_ahead, hav, nApp, TS.setRow, flatD]
theorem tr_loop {s : List Int} (h : Good s) (hb : ∀ x, -(2 ^ 200 : Int) < act s x ∧ act s x < 2 ^ 200) {q d1 d2 : D} {cs : List (List Nat)} (hcs : Cys s s.length cs) : ∀ (post pre : List (Nat × List Nat)), pre ++ post = zs cs → ∀ {sk : List Key} {sv : List D} {L : List (List Key × List D)} {R : List (Key × List D)} {ak : List Key} {av : List D}, TrI s pre sk sv L R ak av → ∀ {al : Option (Nat × Nat)} {a3 a4 a5 a6 a7 a8 : Option TS.R}, isI a3 = true → isI a4 = true → isI a5 = true → isI a6 = true → isI a7 = true → isI a8 = true →
    ∃ sk' sv' L' R' ak' av' al' a3' a4' a5' a6' a7' a8', TrI s (zs cs) sk' sv' L' R' ak' av' ∧
      nForL 3 4 g_Tracks___init___N_5B (enumD pre.length (post.map (cyO s))) (trS s q [none, some (.imm d1), some (.imm d2), a3, a4, a5, a6, a7, a8, none, none] sk sv L R ak av al) = some (trS s q [none, some (.imm d1), some (.imm d2), a3', a4', a5', a6', a7', a8', none, none] sk' sv' L' R' ak' av' al') := by
  intro post
  induction post with
  | nil =>
    intro pre e sk sv L R ak av I al a3 a4 a5 a6 a7 a8 h3 h4 h5 h6 h7 h8
    rw [List.append_nil] at e
    subst e
    exact ⟨_, _, _, _, _, _, _, _, _, _, _, _, _, I, rfl⟩
  | cons x post ih =>
    intro pre e sk sv L R ak av I al a3 a4 a5 a6 a7 a8 h3 h4 h5 h6 h7 h8
    have hget : ∀ (m : Nat) (y : Nat × List Nat), (pre ++ x :: post)[m]? = some y → y.1 = m ∧ cs[m]? = some y.2 := fun m y hy => by
      rw [e, zs_get] at hy
      obtain ⟨c, hc, rfl⟩ := Option.map_eq_some_iff.mp hy
      exact ⟨rfl, hc⟩
    have hx := hget pre.length x (by simp)
    have hcm : x.2 ∈ cs := List.mem_of_getElem? hx.2
    have hlen : pre.length + (post.length + 1) = cs.length := by
      have := congrArg List.length e
      rw [zs_len] at this
      simpa using this
    have hfl : ((pre ++ x :: post).map (·.2)).flatten = cs.flatten := by rw [e, zs_snd]
    have hnd := hcs.nd
    rw [← hfl, List.map_append, List.map_cons, List.flatten_append, List.flatten_cons] at hnd
    obtain ⟨nd1, nd2, nd3⟩ := List.nodup_append.mp hnd
    have fl2 := hcs.len
    have fl3 : ((pre ++ x :: post).map (·.2)).flatten.length ≤ s.length := by rw [hfl]; exact fl2
    rw [List.map_append, List.flatten_append, List.length_append] at fl3
    have cl : cs.length ≤ cs.flatten.length := by
      have : ∀ l : List (List Nat), (∀ c ∈ l, 0 < c.length) → l.length ≤ l.flatten.length := by
        intro l
        induction l with
        | nil => intro _; simp
        | cons c l ih =>
          intro hc
          have h1 := ih (fun d hd => hc d (by simp [hd]))
          have h2 := hc c (by simp)
          simp at h1 ⊢
          omega
      exact this cs fun c hc => (hcs.all c hc).ne
    have hsl := h.len
    obtain ⟨sk1, sv1, L1, R1, ak1, av1, al1, b5, b6, b7, b8, g5, g6, g7, g8, I1, e1⟩ := tr_turn h hb (q := q) (d1 := d1) (d2 := d2) (x := x) (hcs.all _ hcm) (fun y hy z => by
        obtain ⟨m, hm, rfl⟩ := List.getElem_of_mem hy
        have h1 := (hget m pre[m] (by rw [List.getElem?_append_left hm]; exact List.getElem?_eq_getElem hm)).1
        rw [hx.1] at z
        omega) (fun y hy r hr hr2 => nd3 r (List.mem_flatten.mpr ⟨y.2, List.mem_map.mpr ⟨y, hy, rfl⟩, hr⟩) r (by rw [List.mem_append]; exact .inl hr2) rfl) (by omega) (by omega) I (al := al) h5 h6 h7 h8
    obtain ⟨sk2, sv2, L2, R2, ak2, av2, al2, c3, c4, c5, c6, c7, c8, I2, e2⟩ := ih (pre ++ [x]) (by rw [← e]; simp) I1 (al := al1) (a3 := some (.imm (.int (x.1 : Int)))) (a4 := some (.imm (cyO s x))) rfl rfl g5 g6 g7 g8
    refine ⟨sk2, sv2, L2, R2, ak2, av2, al2, c3, c4, c5, c6, c7, c8, I2, ?_⟩
    rw [← e2, List.length_append, List.length_singleton, List.map_cons]
    rw [hx.1] at e1 ⊢
    generalize hX : cyO s x = X at *
    simp only [enumD, nForL, set2, List.set_cons_succ, List.set_cons_zero]
    generalize g_Tracks___init___N_5B = G at *
    rw [e1]
    rfl
def trF (s : List Int) (xs : List (Nat × List Nat)) (sk : List Key) (sv : List D) (L : List (List Key × List D)) (R : List (Key × List D)) (ak : List Key) (av : List D) : List D := [.int (s.length : Int), .lst (xs.map (cyO s)), .dK sk sv, .dT (L.map (·.1)) (L.map fun x => .lst x.2), .dK (R.map (·.1)) (R.map fun x => .lst x.2), .dK ak av]
theorem tracks_init {t : List Int} (ht : Good t) (hb : ∀ x, -(2 ^ 200 : Int) < act t x ∧ act t x < 2 ^ 200) : ∃ cs sk sv L R ak av, Cys (least t) (least t).length cs ∧ TrI (least t) (zs cs) sk sv L R ak av ∧ m_Tracks___init__ (some (.o 3 [])) [pl t] = .ok (.imm .non) (some (.o 3 (trF (least t) (zs cs) sk sv L R ak av))) := by
  have h := ht.least
  have hb' : ∀ x, -(2 ^ 200 : Int) < act (least t) x ∧ act (least t) x < 2 ^ 200 := fun x => by rw [least_act ht.pos]; exact hb x
  have pp : m_Plan_period none [.obj 0 (planD (least t))] = .ok (.imm (.int ((least t).length : Int))) none := period_prop t
  have oo : m_Plan_offsets none [.obj 0 (planD (least t))] = .ok (.own (.l (iL (least t)))) none := offsets_ok t
  obtain ⟨cs, ec, hcs⟩ := cycles_ok h
  show ∃ cs sk sv L R ak av, Cys (least t) (least t).length cs ∧ TrI (least t) (zs cs) sk sv L R ak av ∧ m_Tracks___init__ (some (.o 3 [])) [.obj 0 (planD (least t))] = .ok (.imm .non) (some (.o 3 (trF (least t) (zs cs) sk sv L R ak av)))
  generalize hS : least t = s at *
  have hsl := h.len
  have csl : cs.length ≤ 2520 := by
    have h1 := hcs.len
    have : ∀ l : List (List Nat), (∀ c ∈ l, 0 < c.length) → l.length ≤ l.flatten.length := by
      intro l
      induction l with
      | nil => intro _; simp
      | cons c l ih =>
        intro hc
        have h1 := ih (fun d hd => hc d (by simp [hd]))
        have h2 := hc c (by simp)
        simp at h1 ⊢
        omega
    have := this cs fun c hc => (hcs.all c hc).ne
    omega
  have I0 : TrI s [] [] [] [] [] [] [] := ⟨rfl, by simp, rfl, by simp, by simp, by simp, fun x hx => by simp at hx, fun k => rfl, fun k => rfl, fun pre x post e => by simp at e⟩
  have hen : ∀ (n : Nat) (l : List (List Nat)), (∀ k c, l[k]? = some c → cs[n + k]? = some c) → n + l.length = cs.length → enumD n (cL l) = ((zs cs).drop n).map fun x => .tup [.int (x.1 : Int), .lst (nL x.2)] := by
    intro n l
    induction l generalizing n with
    | nil =>
      intro _ hl
      rw [List.drop_eq_nil_of_le (by rw [zs_len]; simp at hl; omega)]; rfl
    | cons c l ih =>
      intro hg hl
      have h0 := hg 0 c rfl
      rw [Nat.add_zero] at h0
      have hlt : n < (zs cs).length := by rw [zs_len]; simp at hl; omega
      have hz : (zs cs)[n] = (n, c) := by
        have := zs_get cs n
        rw [h0, List.getElem?_eq_getElem hlt] at this
        exact Option.some.inj this
      rw [List.drop_eq_getElem_cons hlt, hz, List.map_cons, ← ih (n + 1) (fun k d hd => by
        have := hg (k + 1) d (by simpa using hd)
        rw [show n + 1 + k = n + (k + 1) by omega]; exact this) (by simp at hl; omega)]
      rfl
  have hen0 := hen 0 cs (fun k c hk => by rw [Nat.zero_add]; exact hk) (by omega)
  rw [List.drop_zero] at hen0
  have q := lc_all (xs := zs cs) (inj := fun x => .tup [.int (x.1 : Int), .lst (nL x.2)]) (setT := stPair 3 9) (vs := [3, 9]) (fi := itEnum (frz (fOwn m_cycles_in (aCons (vI 2) aNil)))) (fe := frz (fMake 2 m_Cycle___init__ (aCons (vI 3) (aCons (vI 9) (aCons (vI 2) aNil)))))
    (δ := [some (.brw (.o 3 [.int (s.length : Int)])), some (.imm (.obj 0 (planD s))), some (.own (.l (iL s))), none, none, none, none, none, none, none, none]) (δ1 := [some (.brw (.o 3 [.int (s.length : Int)])), some (.imm (.obj 0 (planD s))), some (.imm (.lst (iL s))), none, none, none, none, none, none, none, none]) (cyO s)
    [some (.brw (.o 3 [.int (s.length : Int)])), some (.imm (.obj 0 (planD s))), some (.imm (.lst (iL s))), none, none, none, none, none, none, none, none] (by simp [ec, OB.toD, hen0]) rfl rfl rfl (by rw [zs_len]; omega) (fun x hx => by
      refine ⟨[some (.brw (.o 3 [.int (s.length : Int)])), some (.imm (.obj 0 (planD s))), some (.imm (.lst (iL s))), some (.imm (.int (x.1 : Int))), none, none, none, none, none, some (.imm (.lst (nL x.2))), none], rfl, ?_, rfl⟩
      have hc : Cyc s x.2 := by
        obtain ⟨m, hm, rfl⟩ := List.getElem_of_mem hx
        have := zs_get cs m
        rw [List.getElem?_eq_getElem hm] at this
        obtain ⟨c, hc1, hc2⟩ := Option.map_eq_some_iff.mp this.symm
        rw [← hc2]
        exact hcs.all c (List.mem_of_getElem? hc1)
      have e := cycle_init_ok h hc x.1
      generalize nL x.2 = C at *
      simp [e, OB.toD])
  obtain ⟨sk, sv, L, R, ak, av, al, c3, c4, c5, c6, c7, c8, I, e⟩ := tr_loop h hb' (q := .lst ((zs cs).map (cyO s))) (d1 := .obj 0 (planD s)) (d2 := .lst (iL s)) hcs (zs cs) [] rfl I0 (al := none) (a3 := none) (a4 := none) (a5 := none) (a6 := none) (a7 := none) (a8 := none) rfl rfl rfl rfl rfl rfl
  refine ⟨cs, sk, sv, L, R, ak, av, hcs, I, ?_⟩
  have eN : g_Tracks___init___N ⟨[none, some (.imm (.obj 0 (planD s))), some (.imm (.lst (iL s))), none, none, none, none, none, none, none, none], 3, [.d (.int (s.length : Int)), .d (.lst ((zs cs).map (cyO s)))], none⟩ = some (trS s (.lst ((zs cs).map (cyO s))) [none, some (.imm (.obj 0 (planD s))), some (.imm (.lst (iL s))), c3, c4, c5, c6, c7, c8, none, none] sk sv L R ak av al) := by
    have eN' : ∀ (Z : List D) (G : GN), nSeq g_Tracks___init___N_1 (nSeq g_Tracks___init___N_2 (nSeq g_Tracks___init___N_3 (nSeq g_Tracks___init___N_4 (nForF 3 4 ix_own_cycles G)))) ⟨[none, some (.imm (.obj 0 (planD s))), some (.imm (.lst (iL s))), none, none, none, none, none, none, none, none], 3, [.d (.int (s.length : Int)), .d (.lst Z)], none⟩ = nForL 3 4 G (enumD 0 Z) (trS s (.lst Z) [none, some (.imm (.obj 0 (planD s))), some (.imm (.lst (iL s))), none, none, none, none, none, none, none, none] [] [] [] [] [] [] none) := fun Z G => by
      simp [nSeq, nNew, ix_own_spots, ix_own_line_cycles, ix_own_round_cycles, ix_own_ahead, nForF, ix_own_cycles]
    exact (eN' _ _).trans e
  unfold trF
  generalize hZ : (zs cs).map (cyO s) = Z at *
  (unfold m_Tracks___init__ g_Tracks___init__; unfold mir; rw [if_pos (by simp [ioN])]; simp only [ini, ioS, ioN, List.replicate, List.map_cons, List.map_nil, List.length_cons, List.length_nil, List.nil_append, List.cons_append, Nat.zero_add, Nat.reduceAdd, Nat.reduceSub])
  (rw [ap_sSeq]; (conv in (SR.bind _ _) => (arg 1; simp [ptab_period, pp, ix_own_period, setF])); (try rw [SR.bind_nx]))
  (rw [ap_sSeq]; (conv in (SR.bind _ _) => (arg 1; simp [tab_offsets, oo])); (try rw [SR.bind_nx]))
  (rw [ap_sSeq]; (conv in (SR.bind _ _) => (arg 1; simp [q, ix_own_cycles, setF, OB.toD])); (try rw [SR.bind_nx]))
  have hM : g_Tracks___init___M [some (.brw (.o 3 [.int (s.length : Int), .lst Z])), some (.imm (.obj 0 (planD s))), some (.imm (.lst (iL s))), none, none, none, none, none, none, none, none] = .nx [some (.brw (.o 3 [.int (s.length : Int), .lst Z, .dK sk sv, .dT (L.map (·.1)) (L.map fun x => .lst x.2), .dK (R.map (·.1)) (R.map fun x => .lst x.2), .dK ak av])), some (.imm (.obj 0 (planD s))), some (.imm (.lst (iL s))), c3, c4, c5, c6, c7, c8, none, none] := by
    have hM' : ∀ G : GN, G ⟨[none, some (.imm (.obj 0 (planD s))), some (.imm (.lst (iL s))), none, none, none, none, none, none, none, none], 3, [.d (.int (s.length : Int)), .d (.lst Z)], none⟩ = some (trS s (.lst Z) [none, some (.imm (.obj 0 (planD s))), some (.imm (.lst (iL s))), c3, c4, c5, c6, c7, c8, none, none] sk sv L R ak av al) → nestS 0 9 G [some (.brw (.o 3 [.int (s.length : Int), .lst Z])), some (.imm (.obj 0 (planD s))), some (.imm (.lst (iL s))), none, none, none, none, none, none, none, none] = .nx [some (.brw (.o 3 [.int (s.length : Int), .lst Z, .dK sk sv, .dT (L.map (·.1)) (L.map fun x => .lst x.2), .dK (R.map (·.1)) (R.map fun x => .lst x.2), .dK ak av])), some (.imm (.obj 0 (planD s))), some (.imm (.lst (iL s))), c3, c4, c5, c6, c7, c8, none, none] := fun G hG => by
      simp [nestS, immS_cons, immS_nil, noneAt, hG, NF.toD]
    exact hM' _ eN
  rw [hM]
  rfl
end
end K21

namespace K21
open PySem L2 TS
noncomputable section
-- needs: tracks
def pos (s : List Int) (c : List Nat) (b j : Int) : Int := (c.getD 0 0 : Nat) + sumG s c j + s.length * b
theorem cyc_zero {s : List Int} {c : List Nat} (hc : Cyc s c) : c[0]? = some (c.getD 0 0) := by
  rw [List.getD_eq_getElem?_getD, List.getElem?_eq_getElem hc.ne]; rfl
theorem pos_rem {s : List Int} (h : Good s) {c : List Nat} (hc : Cyc s c) (b j : Int) : pos s c b j % s.length = (c.getD (j % c.length).toNat 0 : Nat) := by
  unfold pos
  rw [Int.add_mul_emod_self_left]
  exact sumG_rem hc h.pos (cyc_zero hc) j
theorem pos_step {s : List Int} (h : Good s) {c : List Nat} (hc : Cyc s c) (b j : Int) : pos s c b (j + 1) = mv s (pos s c b j) := by
  unfold mv
  rw [← act_mod s (pos s c b j), pos_rem h hc]
  unfold pos
  rw [sumG_step hc.ne]; omega
theorem pos_pwr {s : List Int} (h : Good s) {c : List Nat} (hc : Cyc s c) (b j k : Int) : pwr s k (pos s c b j) = pos s c b (j + k) :=
  (pwr_uniq h (g := fun k => pos s c b (j + k)) (by simp) (fun n => by
    show pos s c b (j + (n + 1)) = _
    rw [← Int.add_assoc]; exact pos_step h hc b (j + n)) k).symm
theorem pos_form {s : List Int} (h : Good s) {c : List Nat} (hc : Cyc s c) (b j : Int) : pos s c b j = (c.getD 0 0 : Nat) + sumK s c (j % c.length).toNat + s.length * (b + drf s c * (j / c.length)) := by
  unfold pos sumG
  rw [← drf_mul h hc, Int.mul_add]
  have e : j / (c.length : Int) * (s.length * drf s c) = s.length * (drf s c * (j / c.length)) := by
    rw [Int.mul_comm, Int.mul_assoc]
  omega
structure IsAd (s : List Int) (cs : List (List Nat)) (x : Int) (n : Nat) (c : List Nat) (b j : Int) : Prop where
  cyc : cs[n]? = some c
  eq : pos s c b j = x
  rd : drf s c = 0 → 0 ≤ j ∧ j < c.length
  ln : drf s c ≠ 0 → 0 ≤ b ∧ b < ((drf s c).natAbs : Int)
theorem flat_uniq : ∀ {cs : List (List Nat)}, cs.flatten.Nodup → ∀ {n n' : Nat} {c c' : List Nat} {r : Nat}, cs[n]? = some c → cs[n']? = some c' → r ∈ c → r ∈ c' → n = n'
  | [], _, n, n', c, c', r, h1, _, _, _ => by simp at h1
  | a :: cs, h, n, n', c, c', r, h1, h2, m1, m2 => by
    rw [List.flatten_cons] at h
    obtain ⟨_, d2, d3⟩ := List.nodup_append.mp h
    cases n with
    | zero =>
      cases n' with
      | zero => rfl
      | succ n' =>
        simp at h1 h2
        subst h1
        exact absurd rfl (d3 r m1 r (List.mem_flatten.mpr ⟨c', List.mem_of_getElem? h2, m2⟩))
    | succ n =>
      cases n' with
      | zero =>
        simp at h1 h2
        subst h2
        exact absurd rfl (d3 r m2 r (List.mem_flatten.mpr ⟨c, List.mem_of_getElem? h1, m1⟩))
      | succ n' =>
        simp at h1 h2
        rw [flat_uniq d2 h1 h2 m1 m2]
theorem getD_mem {c : List Nat} {k : Nat} (h : k < c.length) : c.getD k 0 ∈ c := by
  rw [List.getD_eq_getElem?_getD, List.getElem?_eq_getElem h]; exact List.getElem_mem h
theorem mod_lt {c : List Nat} (h : 0 < c.length) (j : Int) : (j % c.length).toNat < c.length := by
  have b0 := Int.emod_nonneg j (show (c.length : Int) ≠ 0 by omega)
  have b1 := Int.emod_lt_of_pos j (show 0 < (c.length : Int) by omega)
  omega
theorem getD_inj {c : List Nat} (h : c.Nodup) {i k : Nat} (hi : i < c.length) (hk : k < c.length) (e : c.getD i 0 = c.getD k 0) : i = k := by
  rw [List.getD_eq_getElem?_getD, List.getD_eq_getElem?_getD, List.getElem?_eq_getElem hi, List.getElem?_eq_getElem hk] at e
  have e : c[i] = c[k] := e
  exact (List.getElem_inj h).mp e
theorem abs_eq {b b' d m : Int} (hb : 0 ≤ b ∧ b < (d.natAbs : Int)) (hb' : 0 ≤ b' ∧ b' < (d.natAbs : Int)) (e : b - b' = d * m) : b = b' := by
  have h : (b - b').natAbs = d.natAbs * m.natAbs := by rw [e, Int.natAbs_mul]
  have hl : (b - b').natAbs < d.natAbs := by omega
  by_cases z : m.natAbs = 0
  · rw [z, Nat.mul_zero] at h; omega
  · have : d.natAbs * 1 ≤ d.natAbs * m.natAbs := Nat.mul_le_mul_left _ (by omega)
    omega
theorem IsAd.uniq {s : List Int} (h : Good s) {cs : List (List Nat)} (hcs : Cys s s.length cs) {x : Int} {n n' : Nat} {c c' : List Nat} {b j b' j' : Int} (a : IsAd s cs x n c b j) (a' : IsAd s cs x n' c' b' j') : n = n' ∧ c = c' ∧ b = b' ∧ j = j' := by
  have hc := hcs.all c (List.mem_of_getElem? a.cyc)
  have hc' := hcs.all c' (List.mem_of_getElem? a'.cyc)
  have r := pos_rem h hc b j
  have r' := pos_rem h hc' b' j'
  rw [a.eq] at r
  rw [a'.eq] at r'
  have rr : c.getD (j % c.length).toNat 0 = c'.getD (j' % c'.length).toNat 0 := by omega
  have en := flat_uniq hcs.nd a.cyc a'.cyc (getD_mem (mod_lt hc.ne j)) (by rw [rr]; exact getD_mem (mod_lt hc'.ne j'))
  subst en
  have ec : c = c' := Option.some.inj (a.cyc.symm.trans a'.cyc)
  subst ec
  have ej := getD_inj hc.nd (mod_lt hc.ne j) (mod_lt hc.ne j') rr
  have f := pos_form h hc b j
  have f' := pos_form h hc b' j'
  rw [a.eq] at f
  rw [a'.eq, ← ej] at f'
  have hp := h.pos
  have eu : b + drf s c * (j / c.length) = b' + drf s c * (j' / c.length) := by
    have : (s.length : Int) * (b + drf s c * (j / c.length)) = s.length * (b' + drf s c * (j' / c.length)) := by omega
    exact Int.eq_of_mul_eq_mul_left (by omega) this
  have q := Int.emod_add_mul_ediv j c.length
  have q' := Int.emod_add_mul_ediv j' c.length
  have b0 := Int.emod_nonneg j (show (c.length : Int) ≠ 0 by have := hc.ne; omega)
  have b0' := Int.emod_nonneg j' (show (c.length : Int) ≠ 0 by have := hc.ne; omega)
  have em : j % c.length = j' % c.length := by omega
  refine ⟨rfl, rfl, ?_⟩
  by_cases hd : drf s c = 0
  · have z := a.rd hd
    have z' := a'.rd hd
    rw [hd, Int.zero_mul, Int.zero_mul] at eu
    rw [Int.emod_eq_of_lt z.1 z.2, Int.emod_eq_of_lt z'.1 z'.2] at em
    exact ⟨by omega, em⟩
  · have z := a.ln hd
    have z' := a'.ln hd
    have eb := abs_eq z z' (m := j' / c.length - j / c.length) (by rw [Int.mul_sub]; omega)
    subst eb
    have ed : j / c.length = j' / c.length := Int.eq_of_mul_eq_mul_left hd (by omega)
    rw [em, ed] at q
    exact ⟨rfl, by omega⟩
theorem pos_round {s : List Int} (h : Good s) {c : List Nat} (hc : Cyc s c) (hd : drf s c = 0) (b j : Int) : pos s c b (j % c.length) = pos s c b j := by
  rw [pos_form h hc, pos_form h hc b j, hd, Int.emod_emod_of_dvd _ (Int.dvd_refl _), Int.zero_mul, Int.zero_mul]
def idx (s : List Int) (c : List Nat) (j : Int) : Int := if drf s c = 0 then j % c.length else j
theorem IsAd.pwr {s : List Int} (h : Good s) {cs : List (List Nat)} (hcs : Cys s s.length cs) {x : Int} {n : Nat} {c : List Nat} {b j : Int} (a : IsAd s cs x n c b j) (k : Int) : IsAd s cs (pwr s k x) n c b (idx s c (j + k)) := by
  have hc := hcs.all c (List.mem_of_getElem? a.cyc)
  have hne := hc.ne
  refine ⟨a.cyc, ?_, fun hd => ?_, a.ln⟩
  · rw [← a.eq, pos_pwr h hc]
    unfold idx
    split
    · rename_i hd; exact pos_round h hc hd b _
    · rfl
  · unfold idx
    rw [if_pos hd]
    exact ⟨Int.emod_nonneg _ (by omega), Int.emod_lt_of_pos _ (by omega)⟩
end
end K21

namespace K21
open PySem L2 TS
noncomputable section
-- needs: addr
set_option exponentiation.threshold 200000
theorem log2_w {i : Int} (h : i.natAbs < 2 ^ 41000) : i.natAbs.log2 < 41000 := by
  by_cases z : i.natAbs = 0
  · rw [z]; decide
  · exact (Nat.log2_lt z).mpr h
theorem gMul_w {i j : Int} (h : i.natAbs < 2 ^ 41000) (h2 : j.natAbs < 2 ^ 41000) : gMul (.int i) (.int j) = some (.imm (.int (i * j))) := by
  have h1 := log2_w h
  have h3 := log2_w h2
  have e : CMulB i j = true := gd_true (by omega)
  simp [gMul, gOr, gI, e]
def kd (s : List Int) (c : List Nat) : Str := if drf s c = 0 then "round" else "line"
def adT (s : List Int) (n : Nat) (c : List Nat) (b j : Int) : D := .tup [.str (kd s c), .int (n : Int), .int b, .int j]
abbrev trO (s : List Int) (cs : List (List Nat)) (sk : List Key) (sv : List D) (L : List (List Key × List D)) (R : List (Key × List D)) (ak : List Key) (av : List D) : D := .obj 3 (trF s (zs cs) sk sv L R ak av)
theorem gFdiv_ex {d q : Int} (hd : d ≠ 0) (h2 : d.natAbs < 2 ^ 255) : gFdiv (.int (d * q)) (.int d) = some (.imm (.int q)) := by
  by_cases hp : 0 < d
  · rw [gFdiv_i hp h2, Int.mul_ediv_cancel_left _ hd]
  · rw [gFdiv_n (by omega) h2, Int.mul_fdiv_cancel_left _ hd]
theorem zs_mem {cs : List (List Nat)} {n : Nat} {c : List Nat} (h : cs[n]? = some c) : (n, c) ∈ zs cs := List.mem_of_getElem? (i := n) (by rw [zs_get, h]; rfl)
theorem spot_ex {s : List Int} (h : Good s) {cs : List (List Nat)} (hcs : Cys s s.length cs) {sk : List Key} {sv : List D} {L : List (List Key × List D)} {R : List (Key × List D)} {ak : List Key} {av : List D} (I : TrI s (zs cs) sk sv L R ak av) (x : Int) : ∃ n c i, cs[n]? = some c ∧ c[i]? = some (x % s.length).toNat ∧ gIx (.dK sk sv) (.int (x % s.length)) = some (.imm (.tup [cyO s (n, c), .int (i : Nat)])) := by
  have hp := h.pos
  have b0 := Int.emod_nonneg x (show (s.length : Int) ≠ 0 by omega)
  have b1 := Int.emod_lt_of_pos x (show 0 < (s.length : Int) by omega)
  obtain ⟨r, hr⟩ := Int.eq_ofNat_of_zero_le b0
  have hm := hcs.dn r (by omega)
  obtain ⟨c, hc, hrc⟩ := List.mem_flatten.mp hm
  obtain ⟨n, hn, rfl⟩ := List.getElem_of_mem hc
  obtain ⟨i, hi, e⟩ := List.getElem_of_mem hrc
  have e1 : cs[n]? = some cs[n] := List.getElem?_eq_getElem hn
  have e2 : cs[n][i]? = some r := by rw [List.getElem?_eq_getElem hi, e]
  refine ⟨n, cs[n], i, e1, by rw [hr]; exact e2, ?_⟩
  have := I.sp (n, cs[n]) (zs_mem e1) i r e2
  rw [hr]
  simp only [gIx, TS.keyOf, Option.bind_some, this, Option.map_some]
theorem ix_tup {xs : List D} {i : Nat} {d : D} (h : xs[i]? = some d) : gIx (.tup xs) (.int (i : Int)) = some (.imm d) := by
  show (atI xs (i : Int)).map R.imm = _
  obtain ⟨hl, e⟩ := List.getElem?_eq_some_iff.mp h
  rw [atI_in hl, e]; rfl
theorem ix_rem0 {s : List Int} {c : List Nat} (hc : Cyc s c) : gIx (.tup (nL c)) (.int 0) = some (.imm (.int (c.getD 0 0 : Nat))) := by
  have := ix_tup (xs := nL c) (i := 0) (d := .int (c.getD 0 0 : Nat)) (by unfold nL; rw [List.getElem?_map, cyc_zero hc]; rfl)
  exact this
theorem ix_sums {s : List Int} {c : List Nat} {k : Nat} (hk : k ≤ c.length) : gIx (.lst (iL (sumsC s c))) (.int (k : Int)) = some (.imm (.int (sumK s c k))) := by
  have e := sumsC_get (s := s) hk
  obtain ⟨hl, e2⟩ := List.getElem?_eq_some_iff.mp e
  rw [gIx_ints hl, e2]
theorem block_eq {s : List Int} (h : Good s) {c : List Nat} (hc : Cyc s c) {i : Nat} {x : Int} (hi : c[i]? = some (x % s.length).toNat) : (s.length : Int) * ((x - (c.getD 0 0 : Nat) - sumK s c i) / s.length) = x - (c.getD 0 0 : Nat) - sumK s c i := by
  have hp := h.pos
  have hil : i < c.length := (List.getElem?_eq_some_iff.mp hi).1
  have e := sumG_rem hc hp (cyc_zero hc) (i : Int)
  rw [sumG_nat hc.ne, Int.emod_eq_of_lt (a := (i : Int)) (b := (c.length : Int)) (by omega) (by omega), Int.toNat_natCast, List.getD_eq_getElem?_getD (l := c) (i := i), hi] at e
  have b0 := Int.emod_nonneg x (show (s.length : Int) ≠ 0 by omega)
  have e2 : (((c.getD 0 0 : Nat) : Int) + sumK s c i) % s.length = x % s.length := by
    rw [e]
    show ((x % s.length).toNat : Int) = _
    omega
  have e3 := Int.emod_eq_emod_iff_emod_sub_eq_zero.mp e2.symm
  rw [show x - (((c.getD 0 0 : Nat) : Int) + sumK s c i) = x - (c.getD 0 0 : Nat) - sumK s c i by omega] at e3
  rw [Int.mul_comm]
  exact Int.ediv_mul_cancel_of_emod_eq_zero e3
theorem small_of_mul {p u B : Int} (hp : 0 < p) (h : (p * u).natAbs < B.natAbs) : u.natAbs < B.natAbs := by
  rw [Int.natAbs_mul] at h
  have : 1 * u.natAbs ≤ p.natAbs * u.natAbs := Nat.mul_le_mul_right _ (by omega)
  omega
theorem addr_bd {s : List Int} (h : Good s) (hb : ∀ x, -(2 ^ 200 : Int) < act s x ∧ act s x < 2 ^ 200) {c : List Nat} (hc : Cyc s c) {i : Nat} (hi : i ≤ c.length) {x : Int} (hx : x.natAbs < 2 ^ 40010) {u : Int} (e : (s.length : Int) * u = x - (c.getD 0 0 : Nat) - sumK s c i) : u.natAbs < 2 ^ 40015 := by
  have b := sumK_bd hb (c := c) i
  have l1 := cyc_le hc
  have l2 := h.len
  have l3 := h.pos
  have bm : (i : Int) * 2 ^ 200 ≤ 2520 * 2 ^ 200 := Int.mul_le_mul_of_nonneg_right (by omega) (by decide)
  have c0 := hc.path.lt _ (getD_mem hc.ne)
  have : ((s.length : Int) * u).natAbs < 2 ^ 40015 := by rw [e]; omega
  have := small_of_mul (B := 2 ^ 40015) (by omega) this
  exact this
theorem address_of_ok {s : List Int} (h : Good s) (hb : ∀ x, -(2 ^ 200 : Int) < act s x ∧ act s x < 2 ^ 200) {cs : List (List Nat)} (hcs : Cys s s.length cs) {n : Nat} {c : List Nat} (hn : cs[n]? = some c) {x : Int} (hx : x.natAbs < 2 ^ 40010) {i : Nat} (hi : c[i]? = some (x % s.length).toNat) : ∃ b j, IsAd s cs x n c b j ∧ m_Cycle_address_of none [cyO s (n, c), .int x, .int (i : Int)] = .ok (.imm (adT s n c b j)) none := by
  have hc := hcs.all c (List.mem_of_getElem? hn)
  have hp := h.pos
  have hl := h.len
  have hcl := cyc_le hc
  have hil : i < c.length := (List.getElem?_eq_some_iff.mp hi).1
  have be := block_eq h hc hi
  have bb := addr_bd h hb hc (by omega) hx be
  have g1 := ix_rem0 hc
  have g2 := ix_sums (s := s) (c := c) (k := i) (by omega)
  have g3 : gFdiv (.int (x - (c.getD 0 0 : Nat) - sumK s c i)) (.int (s.length : Int)) = some (.imm (.int ((x - (c.getD 0 0 : Nat) - sumK s c i) / s.length))) := gFdiv_i (by omega) (by omega)
  have db := drf_bd h hb hc
  have lk := lap_okC s (n, c)
  have fm := pos_form h hc
  have dm := drf_mul h hc
  have sg := sumG_lap (t := s) hc.ne
  have sn := sumG_nat (t := s) hc.ne i
  unfold adT kd
  by_cases hd : drf s c = 0
  · refine ⟨(x - (c.getD 0 0 : Nat) - sumK s c i) / s.length, (i : Int), ⟨hn, ?_, fun _ => ⟨by omega, by omega⟩, fun z => absurd hd z⟩, ?_⟩
    · unfold pos
      rw [sn]
      omega
    · rw [if_pos hd]
      generalize ((x - (c.getD 0 0 : Nat) - sumK s c i) / s.length) = blk at *
      have e4 : gEq (.int (drf s c)) (.int 0) = some (.imm (.bl true)) := by rw [hd]; rfl
      clear fm dm sg sn be
      unfold cyO cyD at *
      dsimp only at *
      generalize sumK s c i = K at *
      generalize sumsC s c = S at *
      generalize drf s c = dd at *
      generalize nL c = C at *
      generalize c.getD 0 0 = c0 at *
      (unfold m_Cycle_address_of g_Cycle_address_of; unfold mir; rw [if_pos (by simp [ioN])]; simp only [ini, ioS, ioN, List.replicate, List.map_cons, List.map_nil, List.length_cons, List.length_nil, List.nil_append, List.cons_append, Nat.zero_add, Nat.reduceAdd, Nat.reduceSub])
      (rw [ap_sSeq]; (conv in (SR.bind _ _) => (arg 1; simp [ix_own_remainders, ix_own_sums, ix_own_period, g1, g2, g3, -gIx_l])); (try rw [SR.bind_nx]))
      simp [outR, ioOut, ix_own_drift, e4, ix_own_number]
  · generalize hblk : (x - (c.getD 0 0 : Nat) - sumK s c i) / s.length = blk at *
    have ha : 0 < ((drf s c).natAbs : Int) := by omega
    have ln0 := Int.emod_nonneg blk (show ((drf s c).natAbs : Int) ≠ 0 by omega)
    have ln1 := Int.emod_lt_of_pos blk ha
    have dv : drf s c ∣ blk - blk % ((drf s c).natAbs : Int) := by
      have : ((drf s c).natAbs : Int) ∣ blk - blk % ((drf s c).natAbs : Int) := Int.dvd_self_sub_of_emod_eq rfl
      exact Int.natAbs_dvd.mp this
    obtain ⟨q, hq⟩ := dv
    have qb : q.natAbs < 2 ^ 40050 := by
      have e : (blk - blk % ((drf s c).natAbs : Int)).natAbs = (drf s c).natAbs * q.natAbs := by rw [hq, Int.natAbs_mul]
      have : 1 * q.natAbs ≤ (drf s c).natAbs * q.natAbs := Nat.mul_le_mul_right _ (by omega)
      omega
    refine ⟨blk % ((drf s c).natAbs : Int), (i : Int) + c.length * q, ⟨hn, ?_, fun z => absurd z hd, fun _ => ⟨ln0, ln1⟩⟩, ?_⟩
    · unfold pos
      rw [Int.mul_comm (c.length : Int) q, sg, sn, ← dm]
      have e : q * (s.length * drf s c) = s.length * (drf s c * q) := by rw [Int.mul_comm, Int.mul_assoc]
      rw [e, ← hq, Int.mul_sub]
      omega
    · rw [if_neg hd]
      have e4 : gEq (.int (drf s c)) (.int 0) = some (.imm (.bl false)) := by simp [gEq_i, hd]
      have e5 : gAbs [.int (drf s c)] = some (.imm (.int ((drf s c).natAbs : Int))) := by simp [gAbs, ifabs]
      have e6 := gMod_i (i := blk) ha
      have e7 := gFdiv_ex (q := q) hd (by omega)
      rw [← hq] at e7
      have e8 := gMul_w (i := (c.length : Int)) (j := q) (by omega) (by omega)
      clear fm dm sg sn be hq
      unfold cyO cyD at *
      dsimp only at *
      generalize sumK s c i = K at *
      generalize sumsC s c = S at *
      generalize ((drf s c).natAbs : Int) = ad at *
      generalize drf s c = dd at *
      generalize nL c = C at *
      generalize c.getD 0 0 = c0 at *
      generalize hm : blk % ad = lin at *
      (unfold m_Cycle_address_of g_Cycle_address_of; unfold mir; rw [if_pos (by simp [ioN])]; simp only [ini, ioS, ioN, List.replicate, List.map_cons, List.map_nil, List.length_cons, List.length_nil, List.nil_append, List.cons_append, Nat.zero_add, Nat.reduceAdd, Nat.reduceSub])
      (rw [ap_sSeq]; (conv in (SR.bind _ _) => (arg 1; simp [ix_own_remainders, ix_own_sums, ix_own_period, g1, g2, g3, -gIx_l])); (try rw [SR.bind_nx]))
      (rw [ap_sSeq]; (conv in (SR.bind _ _) => (arg 1; simp [ix_own_drift, e4])); (try rw [SR.bind_nx]))
      (rw [ap_sSeq]; (conv in (SR.bind _ _) => (arg 1; simp [ix_own_drift, e5, e6])); (try rw [SR.bind_nx]))
      simp [outR, ioOut, ix_own_drift, ix_own_number, lk, tab_lap, e7, e8]
section
variable {s : List Int} (h : Good s) (hb : ∀ x, -(2 ^ 200 : Int) < act s x ∧ act s x < 2 ^ 200) {cs : List (List Nat)} (hcs : Cys s s.length cs) {sk : List Key} {sv : List D} {L : List (List Key × List D)} {R : List (Key × List D)} {ak : List Key} {av : List D} (I : TrI s (zs cs) sk sv L R ak av)
include h hb hcs I
theorem address_ex {x : Int} (hx : x.natAbs < 2 ^ 40010) : ∃ n c b j, IsAd s cs x n c b j ∧ m_Tracks_address none [trO s cs sk sv L R ak av, .int x] = .ok (.imm (adT s n c b j)) none := by
  obtain ⟨n, c, i, hn, hi, ix⟩ := spot_ex h hcs I x
  obtain ⟨b, j, ad, e⟩ := address_of_ok h hb hcs hn hx hi
  refine ⟨n, c, b, j, ad, ?_⟩
  have hp := h.pos
  have r := require1_ok x
  have md := gMod_i (i := x) (j := (s.length : Int)) (by omega)
  generalize adT s n c b j = A at *
  unfold trO trF at *
  generalize (zs cs).map (cyO s) = Z at *
  unfold cyO at *
  generalize hC : cyD s (n, c).1 (n, c).2 = C at *
  (unfold m_Tracks_address g_Tracks_address; unfold mir; rw [if_pos (by simp [ioN])]; simp only [ini, ioS, ioN, List.replicate, List.map_cons, List.map_nil, List.length_cons, List.length_nil, List.nil_append, List.cons_append, Nat.zero_add, Nat.reduceAdd, Nat.reduceSub])
  (rw [ap_sSeq]; (conv in (SR.bind _ _) => (arg 1; simp [r])); (try rw [SR.bind_nx]))
  (rw [ap_sSeq]; (conv in (SR.bind _ _) => (arg 1; simp [ix_own_spots, ix_own_period, md, ix])); (try rw [SR.bind_nx]))
  simp [outR, ioOut, tab_address_of, e]
theorem address_ok {x : Int} (hx : x.natAbs < 2 ^ 40010) {n : Nat} {c : List Nat} {b j : Int} (a : IsAd s cs x n c b j) : m_Tracks_address none [trO s cs sk sv L R ak av, .int x] = .ok (.imm (adT s n c b j)) none := by
  obtain ⟨n', c', b', j', a', e⟩ := address_ex h hb hcs I hx
  obtain ⟨rfl, rfl, rfl, rfl⟩ := a.uniq h hcs a'
  exact e
end
end
end K21

namespace K21
open PySem L2 TS
noncomputable section
-- needs: addr2v
set_option exponentiation.threshold 200000
theorem sl1 (a b c d : D) : gSl (.tup [a, b, c, d]) (some 1) none = some (.imm (.tup [b, c, d])) := rfl
theorem cyc_ix {s : List Int} {cs : List (List Nat)} {n : Nat} {c : List Nat} (h : cs[n]? = some c) : gIx (.lst ((zs cs).map (cyO s))) (.int (n : Int)) = some (.imm (cyO s (n, c))) := by
  have e : ((zs cs).map (cyO s))[n]? = some (cyO s (n, c)) := by rw [List.getElem?_map, zs_get, h]; rfl
  obtain ⟨hl, e2⟩ := List.getElem?_eq_some_iff.mp e
  rw [gIx_l, atI_in hl, e2]; rfl
def stp (s : List Int) (n n' : Nat) (c : List Nat) (b b' j j' : Int) : D := if n = n' ∧ b = b' then .int (idx s c (j' - j)) else .non
section
variable {s : List Int} (h : Good s) (hb : ∀ x, -(2 ^ 200 : Int) < act s x ∧ act s x < 2 ^ 200) {cs : List (List Nat)} (hcs : Cys s s.length cs) {sk : List Key} {sv : List D} {L : List (List Key × List D)} {R : List (Key × List D)} {ak : List Key} {av : List D} (I : TrI s (zs cs) sk sv L R ak av)
include h hb hcs I
end
end
end K21

namespace K21
open PySem L2 TS
noncomputable section
-- needs: addr3v
set_option exponentiation.threshold 200000
section
variable {s : List Int} (h : Good s) (hb : ∀ x, -(2 ^ 200 : Int) < act s x ∧ act s x < 2 ^ 200) {cs : List (List Nat)} (hcs : Cys s s.length cs) {sk : List Key} {sv : List D} {L : List (List Key × List D)} {R : List (Key × List D)} {ak : List Key} {av : List D} (I : TrI s (zs cs) sk sv L R ak av)
include h hb hcs
theorem place_at_ok {x : Int} (hx : x.natAbs < 2 ^ 40010) {n : Nat} {c : List Nat} {b j : Int} (a : IsAd s cs x n c b j) : m_Cycle_place_at none [cyO s (n, c), .int b, .int j] = .ok (.imm (.int x)) none := by
  have hc := hcs.all c (List.mem_of_getElem? a.cyc)
  have hne := hc.ne
  have hl := h.len
  have hp := h.pos
  have hcl := cyc_le hc
  have fm := pos_form h hc b j
  rw [a.eq] at fm
  have ml := mod_lt hne j
  have b0 := Int.emod_nonneg j (show (c.length : Int) ≠ 0 by omega)
  have ub := addr_bd h hb hc (Nat.le_of_lt ml) hx (u := b + drf s c * (j / c.length)) (by omega)
  have db := drf_bd h hb hc
  have dt : (drf s c * (j / c.length)).natAbs < 2 ^ 40020 ∧ (j / (c.length : Int)).natAbs < 2 ^ 40020 := by
    by_cases hd : drf s c = 0
    · have z := a.rd hd
      rw [hd, Int.zero_mul, Int.ediv_eq_zero_of_lt z.1 z.2]
      decide
    · have z := a.ln hd
      have q : (drf s c * (j / c.length)).natAbs < 2 ^ 40020 := by omega
      refine ⟨q, ?_⟩
      rw [Int.natAbs_mul] at q
      have : 1 * (j / (c.length : Int)).natAbs ≤ (drf s c).natAbs * (j / (c.length : Int)).natAbs := Nat.mul_le_mul_right _ (by omega)
      omega
  have lk := lap_okC s (n, c)
  have dm := gDivmod_i (i := j) (j := (c.length : Int)) (by omega) (by omega)
  have g1 := ix_rem0 hc
  have g2 := ix_sums (s := s) (c := c) (k := (j % (c.length : Int)).toNat) (by omega)
  rw [Int.toNat_of_nonneg b0] at g2
  have m1 := gMul_w (i := drf s c) (j := j / (c.length : Int)) (by omega) (by omega)
  have m2 := gMul_w (i := (s.length : Int)) (j := b + drf s c * (j / c.length)) (by omega) (by omega)
  rw [fm]
  clear fm ub dt ml hc
  unfold cyO cyD at *
  dsimp only at *
  generalize sumK s c (j % (c.length : Int)).toNat = K at *
  generalize sumsC s c = S at *
  generalize drf s c = dd at *
  generalize nL c = C at *
  generalize c.getD 0 0 = c0 at *
  generalize hu : j / (c.length : Int) = u at *
  generalize hv : j % (c.length : Int) = v at *
  (unfold m_Cycle_place_at g_Cycle_place_at; unfold mir; rw [if_pos (by simp [ioN])]; simp only [ini, ioS, ioN, List.replicate, List.map_cons, List.map_nil, List.length_cons, List.length_nil, List.nil_append, List.cons_append, Nat.zero_add, Nat.reduceAdd, Nat.reduceSub])
  (rw [ap_sSeq]; (conv in (SR.bind _ _) => (arg 1; simp [tab_lap, lk, dm])); (try rw [SR.bind_nx]))
  simp [outR, ioOut, ix_own_remainders, ix_own_sums, ix_own_period, ix_own_drift, g1, g2, m1, m2, -gIx_l]
omit h hb hcs in
theorem has_address_ok {x : Int} {n : Nat} {c : List Nat} {b j : Int} (a : IsAd s cs x n c b j) : m_Cycle_has_address none [cyO s (n, c), .str (kd s c), .int b, .int j] = .ok (.imm (.bl true)) none := by
  have lk := lap_okC s (n, c)
  have e5 : gAbs [.int (drf s c)] = some (.imm (.int ((drf s c).natAbs : Int))) := by simp [gAbs, ifabs]
  unfold kd
  unfold cyO cyD at *
  dsimp only at *
  by_cases hd : drf s c = 0
  · obtain ⟨z1, z2⟩ := a.rd hd
    rw [if_pos hd]
    rw [hd] at lk ⊢
    have q : gEq (.str "round") (.str "round") = some (.imm (.bl true)) := by rw [gEq_str (strOk_of _) (strOk_of _)]; simp
    generalize nL c = C at *
    generalize sumsC s c = S at *
    (unfold m_Cycle_has_address g_Cycle_has_address; unfold mir; rw [if_pos (by simp [ioN])]; simp only [ini, ioS, ioN, List.replicate, List.map_cons, List.map_nil, List.length_cons, List.length_nil, List.nil_append, List.cons_append, Nat.zero_add, Nat.reduceAdd, Nat.reduceSub])
    simp [outR, ioOut, ix_own_drift, q, tab_lap, lk, z1, z2]
  · obtain ⟨z1, z2⟩ := a.ln hd
    rw [if_neg hd]
    have q : gEq (.str "line") (.str "line") = some (.imm (.bl true)) := by rw [gEq_str (strOk_of _) (strOk_of _)]; simp
    have e4 : gEq (.int (drf s c)) (.int 0) = some (.imm (.bl false)) := by simp [gEq_i, hd]
    generalize nL c = C at *
    generalize sumsC s c = S at *
    generalize ((drf s c).natAbs : Int) = ad at *
    generalize drf s c = dd at *
    (unfold m_Cycle_has_address g_Cycle_has_address; unfold mir; rw [if_pos (by simp [ioN])]; simp only [ini, ioS, ioN, List.replicate, List.map_cons, List.map_nil, List.length_cons, List.length_nil, List.nil_append, List.cons_append, Nat.zero_add, Nat.reduceAdd, Nat.reduceSub])
    (rw [ap_sSeq]; (conv in (SR.bind _ _) => (arg 1; simp [ix_own_drift, e4])); (try rw [SR.bind_nx]))
    simp [outR, ioOut, ix_own_drift, q, e5, z1, z2]
theorem placeT_ok {x : Int} (hx : x.natAbs < 2 ^ 40010) {n : Nat} {c : List Nat} {b j : Int} (a : IsAd s cs x n c b j) : m_Tracks_place none [trO s cs sk sv L R ak av, adT s n c b j] = .ok (.imm (.int x)) none := by
  have pa := place_at_ok h hb hcs hx a
  have ha := has_address_ok a
  have ci := cyc_ix (s := s) a.cyc
  have hlt : n < cs.length := (List.getElem?_eq_some_iff.mp a.cyc).1
  have ln : gLen [.lst ((zs cs).map (cyO s))] = some (.imm (.int (cs.length : Int))) := by simp [gLen, lenD, zs_len]
  have l4 : gLen [.tup [.str (kd s c), .int (n : Int), .int b, .int j]] = some (.imm (.int 4)) := rfl
  have i3 : gIx (.tup [.str (kd s c), .int (n : Int), .int b, .int j]) (.int 3) = some (.imm (.int j)) := rfl
  have i2 : gIx (.tup [.str (kd s c), .int (n : Int), .int b, .int j]) (.int 2) = some (.imm (.int b)) := rfl
  have i1 : gIx (.tup [.str (kd s c), .int (n : Int), .int b, .int j]) (.int 1) = some (.imm (.int (n : Int))) := rfl
  have i0 : gIx (.tup [.str (kd s c), .int (n : Int), .int b, .int j]) (.int 0) = some (.imm (.str (kd s c))) := rfl
  have s1 := sl1 (.str (kd s c)) (.int (n : Int)) (.int b) (.int j)
  unfold adT trO trF at *
  generalize (zs cs).map (cyO s) = Z at ci ln ⊢
  unfold cyO at *
  dsimp only at *
  generalize cyD s n c = C at *
  generalize hk : kd s c = k at *
  have q := fun TF : D => lc_intsD (xs := [(n : Int), b, j]) (fun _ => .bl true) (i := 2) (fi := itTup (frz (fSl (vI 1) (oSome (kD (.int 1))) oNone))) (fe := frz (fOwn m_is_integer (aCons (vI 2) aNil))) (δ := [some (.imm TF), some (.imm (.tup [.str k, .int (n : Int), .int b, .int j])), none]) (δ1 := [some (.imm TF), some (.imm (.tup [.str k, .int (n : Int), .int b, .int j])), none]) (by simp [s1, iL]) rfl (by simp) (fun x _ => by simp [is_integer_ok])
  have ia : m_Tracks_is_address none [.obj 3 [.int (s.length : Int), .lst Z, .dK sk sv, .dT (L.map (·.1)) (L.map fun x => .lst x.2), .dK (R.map (·.1)) (R.map fun x => .lst x.2), .dK ak av], .tup [.str k, .int (n : Int), .int b, .int j]] = .ok (.imm (.bl true)) none := by
    have q := q (.obj 3 [.int (s.length : Int), .lst Z, .dK sk sv, .dT (L.map (·.1)) (L.map fun x => .lst x.2), .dK (R.map (·.1)) (R.map fun x => .lst x.2), .dK ak av])
    generalize hD1 : L.map (·.1) = D1 at *
    generalize hD2 : (L.map fun x => D.lst x.2) = D2 at *
    generalize hD3 : R.map (·.1) = D3 at *
    generalize hD4 : (R.map fun x => D.lst x.2) = D4 at *
    have ga : gAll [.lst [.bl true, .bl true, .bl true]] = some (.imm (.bl true)) := rfl
    have q : _ = Res.ok (TS.R.own (.l [.bl true, .bl true, .bl true])) _ := q
    have lt1 : (0 : Int) ≤ (n : Int) := by omega
    have lt2 : (n : Int) < (cs.length : Int) := by omega
    have it : is_tuple (Sum.inl "tuple") = some true := by decide +kernel
    (unfold m_Tracks_is_address g_Tracks_is_address; unfold mir; rw [if_pos (by simp [ioN])]; simp only [ini, ioS, ioN, List.replicate, List.map_cons, List.map_nil, List.length_cons, List.length_nil, List.nil_append, List.cons_append, Nat.zero_add, Nat.reduceAdd, Nat.reduceSub])
    (rw [ap_sSeq]; (conv in (SR.bind _ _) => (arg 1; simp [it, tagD, l4, q, ga, OB.toD])); (try rw [SR.bind_nx]))
    (rw [ap_sSeq]; (conv in (SR.bind _ _) => (arg 1; simp [i1, ix_own_cycles, ln, lt1, lt2])); (try rw [SR.bind_nx]))
    simp [outR, ioOut, i0, i1, i2, i3, ix_own_cycles, ci, tab_has_address, ha, -gIx_l]
  (unfold m_Tracks_place g_Tracks_place; unfold mir; rw [if_pos (by simp [ioN])]; simp only [ini, ioS, ioN, List.replicate, List.map_cons, List.map_nil, List.length_cons, List.length_nil, List.nil_append, List.cons_append, Nat.zero_add, Nat.reduceAdd, Nat.reduceSub])
  (rw [ap_sSeq]; (conv in (SR.bind _ _) => (arg 1; simp [tab_is_address, ia])); (try rw [SR.bind_nx]))
  simp [outR, ioOut, i1, i2, i3, ix_own_cycles, ci, tab_place_at, pa, -gIx_l]
end
end
end K21

namespace K21
open PySem L2 TS
noncomputable section
-- needs:
def Pot (o : OB) : Prop := ∃ a b : Int, o = .l [.int a, .int b] ∧ 0 ≤ a ∧ 0 ≤ b ∧ b < 4294967296
theorem draw_ok {o : OB} (h : Pot o) {m : Int} (h0 : 0 < m) (h1 : m < 1000000000) : ∃ r o', m__law_draw (some o) [.int m] = .ok (.imm (.int r)) (some o') ∧ Pot o' ∧ 0 ≤ r ∧ r < m := by
  obtain ⟨a, b, rfl, ha, hb, hb2⟩ := h
  have hm : m.natAbs < 2 ^ 255 := by omega
  by_cases hp : 0 < a
  · refine ⟨a % m, .l [.int (a / m), .int b], ?_, ⟨_, _, rfl, Int.ediv_nonneg ha (by omega), hb, hb2⟩, Int.emod_nonneg _ (by omega), Int.emod_lt_of_pos _ h0⟩
    simp [m__law_draw, mir, ini, ioS, ioN, outR, ioOut, g__law_draw, atI, ixN, hp, gDivmod_i h0 hm, setOB]
  · have hb' : (b * 48271 + 20011) % 2147483629 < 2147483629 := Int.emod_lt_of_pos _ (by decide)
    have hb0 : 0 ≤ (b * 48271 + 20011) % 2147483629 := Int.emod_nonneg _ (by decide)
    have e1 : gMul (.int b) (.int 48271) = some (.imm (.int (b * 48271))) := gMul_i (by omega) (by decide)
    have e2 : gMul (.int ((b * 48271 + 20011) % 2147483629)) (.int ((b * 48271 + 20011) % 2147483629)) = some (.imm (.int ((b * 48271 + 20011) % 2147483629 * ((b * 48271 + 20011) % 2147483629)))) := gMul_i (by omega) (by omega)
    have e3 : ∀ i : Int, gMod (.int i) (.int 2147483629) = some (.imm (.int (i % 2147483629))) := fun i => gMod_i (by decide)
    have e4 : ∀ i : Int, gMod (.int i) (.int 2147483563) = some (.imm (.int (i % 2147483563))) := fun i => gMod_i (by decide)
    have e5 : ∀ i : Int, gFdiv (.int i) (.int 13) = some (.imm (.int (i / 13))) := fun i => gFdiv_i (by decide) (by decide)
    have e6 : ∀ i : Int, gMod (.int i) (.int m) = some (.imm (.int (i % m))) := fun i => gMod_i h0
    refine ⟨(((b * 48271 + 20011) % 2147483629 * ((b * 48271 + 20011) % 2147483629)) % 2147483563 / 13) % m, .l [.int a, .int ((b * 48271 + 20011) % 2147483629)], ?_, ⟨_, _, rfl, ha, hb0, by omega⟩, Int.emod_nonneg _ (by omega), Int.emod_lt_of_pos _ h0⟩
    simp [m__law_draw, mir, ini, ioS, ioN, outR, ioOut, g__law_draw, atI, ixN, hp, setOB, e1, e2, e3, e4, e5, e6]
end
end K21

namespace K21
open PySem L2 TS
noncomputable section
-- needs: draw
theorem pick_ok {o : OB} (h : Pot o) {xs : List Int} (h0 : 0 < xs.length) (h1 : xs.length < 1000) : ∃ x o', m__law_pick (some o) [.lst (iL xs)] = .ok (.imm (.int x)) (some o') ∧ Pot o' ∧ x ∈ xs := by
  obtain ⟨r, o1, e1, p1, a1, b1⟩ := draw_ok h (m := (xs.length : Int)) (by omega) (by omega)
  obtain ⟨n, rfl⟩ : ∃ n : Nat, r = n := ⟨r.toNat, by omega⟩
  have hn : n < xs.length := by omega
  refine ⟨xs[n], o1, ?_, p1, List.getElem_mem hn⟩
  have ix := gIx_ints hn
  simp [m__law_pick, mir, ini, ioS, ioN, outR, ioOut, g__law_pick, e1, ix, -gIx_l]
end
end K21

namespace K21
open PySem L2 TS
noncomputable section
-- needs: pick
theorem p7_le {i j : Nat} (h : i ≤ j) : (10000000 : Int) ^ i ≤ 10000000 ^ j := by
  obtain ⟨k, rfl⟩ := Nat.exists_eq_add_of_le h
  induction k with
  | zero => exact Int.le_refl _
  | succ k ih =>
    have := ih (by omega)
    have p : (0 : Int) ≤ 10000000 ^ (i + k) := Int.pow_nonneg (by decide)
    rw [show i + (k + 1) = (i + k) + 1 by omega, Int.pow_succ]
    omega
theorem great_loop {g : Option TS.R} : ∀ (k i : Nat) (o : OB) (n : Int) (s3 : Option TS.R), Pot o → i + k ≤ 10 → 0 ≤ n → n < 10000000 ^ i →
    ∃ o' n' s3', Pot o' ∧ 0 ≤ n' ∧ n' < (10000000 : Int) ^ (i + k) ∧ forL (tName 3) g__law_great_2B (iL (nats i k)) [some (.brw o), g, some (.imm (.int n)), s3] = .nx [some (.brw o'), g, some (.imm (.int n')), s3'] := by
  intro k
  induction k with
  | zero => intro i o n s3 hp _ h0 h1; exact ⟨o, n, s3, hp, h0, h1, by simp [nats, forL, iL]⟩
  | succ k ih =>
    intro i o n s3 hp hi h0 h1
    obtain ⟨r, o1, e1, p1, a1, b1⟩ := draw_ok hp (m := 10000000) (by decide) (by decide)
    have bd : (10000000 : Int) ^ i ≤ 10000000 ^ 9 := p7_le (by omega)
    have b9 : (10000000 : Int) ^ 9 = 1000000000000000000000000000000000000000000000000000000000000000 := by decide
    have m := gMul_i (i := n) (j := 10000000) (by omega) (by decide)
    have up : n * 10000000 + r < 10000000 ^ (i + 1) := by rw [Int.pow_succ]; omega
    obtain ⟨o', n', s3', p', q0, q1, e2⟩ := ih (i + 1) o1 (n * 10000000 + r) (some (.imm (.int (i : Int)))) p1 (by omega) (by omega) up
    refine ⟨o', n', s3', p', q0, by rw [show i + (k + 1) = i + 1 + k by omega]; exact q1, ?_⟩
    rw [← e2, nats_succ]
    simp [forL, pow_7, e1, m]
theorem great_ok {o : OB} (h : Pot o) {g : Nat} (hg : g ≤ 10) : ∃ r o', m__law_great (some o) [.int (g : Int)] = .ok (.imm (.int r)) (some o') ∧ Pot o' ∧ (r.natAbs : Int) < 10000000 ^ g := by
  obtain ⟨o1, n, s3, p1, n0, n1, e1⟩ := great_loop (g := some (.imm (.int (g : Int)))) g 0 o 0 none h (by omega) (by decide) (by decide)
  rw [Nat.zero_add] at n1
  obtain ⟨s, o2, e2, p2, hs⟩ := pick_ok p1 (xs := [1, -1]) (by simp) (by simp)
  have e2' : m__law_pick (some o1) [.lst [.int 1, .int (-1)]] = .ok (.imm (.int s)) (some o2) := e2
  have bd : (10000000 : Int) ^ g ≤ 10000000 ^ 10 := p7_le hg
  have b9 : (10000000 : Int) ^ 10 = 10000000000000000000000000000000000000000000000000000000000000000000000 := by decide
  have hs' : s = 1 ∨ s = -1 := by simpa using hs
  have m := gMul_i (i := n) (j := s) (by omega) (by omega)
  refine ⟨n * s, o2, ?_, p2, by rcases hs' with rfl | rfl <;> omega⟩
  have q : itRg1 (vI 1) [some (.brw o), some (.imm (.int (g : Int))), some (.imm (.int 0)), none] = .ok (iL (nats 0 g)) [some (.brw o), some (.imm (.int (g : Int))), some (.imm (.int 0)), none] := itRg1_ok (by omega) (by simp)
  (unfold m__law_great g__law_great; unfold mir; rw [if_pos (by simp [ioN])]; simp only [ini, ioS, ioN, List.replicate, List.map_cons, List.map_nil, List.length_cons, List.length_nil, List.nil_append, List.cons_append, Nat.zero_add, Nat.reduceAdd, Nat.reduceSub])
  (rw [ap_sSeq]; (conv in (SR.bind _ _) => (arg 1; simp [])); (try rw [SR.bind_nx]))
  rw [ap_sSeq, show g__law_great_2 _ = _ from for_st q e1, SR.bind_nx]
  simp [outR, ioOut, e2', m]
end
end K21

namespace K21
open PySem L2 TS
noncomputable section
-- needs: draw
abbrev shT : FT := fTst (fBinV gNe 2 (frz (fLst aNil)))
abbrev shB : FS := sExpr (toE (fMut 3 mAppend (aCons (fMut 2 mPop (aCons (frz (fOwnIo m__law_draw 0 (aCons (frz (fCal gLen (aOne (vP 2)))) aNil))) aNil)) aNil)))
theorem gNe_nil (xs : List Int) : gNe (.lst (iL xs)) (.lst []) = some (.imm (.bl (!decide (xs = [])))) := gNe_l xs []
theorem shuf_loop (x : Option TS.R) : ∀ (k : Nat) (o : OB) (left mixed : List Int) (fuel : Nat), left.length = k → k < fuel → mixed.length + k ≤ 1000 → Pot o →
    ∃ o' mixed', whileL shT shB fuel [some (.brw o), x, some (.own (.l (iL left))), some (.own (.l (iL mixed)))] = .nx [some (.brw o'), x, some (.own (.l [])), some (.own (.l (iL mixed')))] ∧ Pot o' ∧ mixed'.Perm (mixed ++ left) := by
  intro k
  induction k with
  | zero =>
    intro o left mixed fuel hl hf hm hp
    obtain rfl : left = [] := List.eq_nil_of_length_eq_zero hl
    obtain ⟨f, rfl⟩ : ∃ f, fuel = f + 1 := ⟨fuel - 1, by omega⟩
    refine ⟨o, mixed, ?_, hp, by simp⟩
    have e := gNe_nil []
    simp [whileL, e, iL]
    simp [iL] at e
    simp [e]
  | succ k ih =>
    intro o left mixed fuel hl hf hm hp
    obtain ⟨f, rfl⟩ : ∃ f, fuel = f + 1 := ⟨fuel - 1, by omega⟩
    have hne : left ≠ [] := by intro z; rw [z] at hl; cases hl
    obtain ⟨r, o1, e1, p1, a1, b1⟩ := draw_ok hp (m := (left.length : Int)) (by omega) (by omega)
    obtain ⟨n, rfl⟩ : ∃ n : Nat, r = n := ⟨r.toNat, by omega⟩
    have hn : n < left.length := by omega
    have e2 := gNe_nil left
    have e3 : mPop (iL left) [.int (n : Int)] = some (.int left[n], iL (left.eraseIdx n)) := by
      have c : gd (0 ≤ (n : Int) ∧ (n : Int) < ((iL left).length : Int) ∧ (n : Int) < 9223372036854775808) = true := gd_true ⟨by omega, by simp [iL]; exact hn, by omega⟩
      have g : (iL left)[((n : Int)).toNat]? = some (.int left[n]) := by simp [iL, hn]
      have er : (iL left).eraseIdx ((n : Int)).toNat = iL (left.eraseIdx n) := by simp [iL, erase_map]
      simp only [mPop, c, if_true, g, er, Option.map_some]
    have e4 : ∀ d : Int, mAppend (iL mixed) [.int d] = some (.non, iL (mixed ++ [d])) := fun d => mAppend_int (by omega) d
    have hlen : (left.eraseIdx n).length = k := by rw [List.length_eraseIdx_of_lt hn]; omega
    obtain ⟨o', mixed', e5, p5, q5⟩ := ih o1 (left.eraseIdx n) (mixed ++ [left[n]]) f hlen (by omega) (by simp; omega) p1
    refine ⟨o', mixed', ?_, p5, ?_⟩
    · rw [← e5]
      simp only [whileL]
      simp [e1, e2, e3, e4, hne]
    · refine q5.trans ?_
      rw [List.append_assoc]
      exact List.Perm.append_left _ (by simpa using (erase_perm left n hn))
theorem mixed_ok {o : OB} (h : Pot o) {xs : List Int} (hx : xs.length ≤ 1000) : ∃ ys o', m__law_mixed (some o) [.lst (iL xs)] = .ok (.own (.l (iL ys))) (some o') ∧ Pot o' ∧ ys.Perm xs := by
  obtain ⟨o', ys, e, p, q⟩ := shuf_loop (some (.imm (.lst (iL xs)))) xs.length o xs [] (xs.length + 2) rfl (by omega) (by simpa using hx) h
  refine ⟨ys, o', ?_, p, by simpa using q⟩
  have e2 : gList [.lst (iL xs)] = some (.own (.l (iL xs))) := rfl
  have e3 : iL [] = [] := rfl
  rw [e3] at e
  simp [m__law_mixed, mir, ini, ioS, ioN, outR, ioOut, g__law_mixed, e2, sWhile, muL, e]
end
end K21

namespace K21
open PySem L2 TS
noncomputable section
-- needs: greatB mixed pick
theorem gNotIn_l (x : Int) (xs : List Int) : gNotIn (.int x) (.lst (iL xs)) = some (.imm (.bl (!decide (x ∈ xs)))) := by
  have f : (iL xs).all flatD = true := by
    rw [List.all_eq_true]
    intro d hd
    obtain ⟨i, _, rfl⟩ := List.mem_map.mp hd
    rfl
  have e : inD (.int x) (iL xs) = decide (x ∈ xs) := by
    induction xs with
    | nil => rfl
    | cons y xs ih =>
      have ih := ih (by
        rw [List.all_eq_true]
        intro d hd
        obtain ⟨i, _, rfl⟩ := List.mem_map.mp hd
        rfl)
      unfold inD at ih ⊢
      rw [iL_cons, List.any_cons, ih]
      show (y == x || decide (x ∈ xs)) = _
      by_cases h : y = x
      · subst h; simp
      · have h2 : ¬ x = y := fun z => h z.symm
        simp [h, h2]
  show (if (true && (iL xs).all flatD) = true then some (R.imm (.bl (!inD (.int x) (iL xs)))) else none) = _
  rw [f, e]; rfl
theorem ring_while {goals : List Int} {n : Nat} (hg : goals.length = n) (hr : ∀ g ∈ goals, 0 ≤ g ∧ g < n) (hn : n ≤ 5000) {s1 s2 s3 : Option TS.R} : ∀ (m : Nat) (ring : List Int) (here : Int) (fuel : Nat), ring.Nodup → (∀ x ∈ ring, 0 ≤ x ∧ x < n) → 0 ≤ here ∧ here < n → ring.length + m = n → m < fuel →
    ∃ (ring' : List Int) (here' : Int), whileL (fTst (fBin gNotIn (vI 5) (vP 4))) g__law_rings_2_1a_2B fuel [some (.imm (.lst (iL goals))), s1, s2, s3, some (.own (.l (iL ring))), some (.imm (.int here))] =
      .nx [some (.imm (.lst (iL goals))), s1, s2, s3, some (.own (.l (iL ring'))), some (.imm (.int here'))] ∧ (∀ x ∈ ring', 0 ≤ x ∧ x < n) ∧ (∀ x ∈ ring, x ∈ ring') ∧ here ∈ ring' ∧ ring'.length ≤ n := by
  intro m
  induction m with
  | zero =>
    intro ring here fuel nd hb hh hm hf
    obtain ⟨f, rfl⟩ : ∃ f, fuel = f + 1 := ⟨fuel - 1, by omega⟩
    have hin : here ∈ ring := Classical.byContradiction fun hx => by
      have := nd_len n (here :: ring) (List.nodup_cons.mpr ⟨hx, nd⟩) (fun x hx => by
        rcases List.mem_cons.mp hx with rfl | hx
        · exact hh
        · exact hb x hx)
      simp at this
      omega
    refine ⟨ring, here, ?_, hb, fun x hx => hx, hin, by omega⟩
    have e := gNotIn_l here ring
    rw [decide_eq_true hin] at e
    simp only [whileL]
    simp [e]
  | succ m ih =>
    intro ring here fuel nd hb hh hm hf
    obtain ⟨f, rfl⟩ : ∃ f, fuel = f + 1 := ⟨fuel - 1, by omega⟩
    have e := gNotIn_l here ring
    by_cases hin : here ∈ ring
    · refine ⟨ring, here, ?_, hb, fun x hx => hx, hin, by omega⟩
      rw [decide_eq_true hin] at e
      simp only [whileL]
      simp [e]
    · rw [decide_eq_false hin] at e
      obtain ⟨k, rfl⟩ := Int.eq_ofNat_of_zero_le hh.1
      have hk : k < goals.length := by omega
      have ix := gIx_ints hk
      have ap := mAppend_int (xs := ring) (by omega) (k : Int)
      obtain ⟨ring', here', e2, c1, c2, c3, c4⟩ := ih (ring ++ [(k : Int)]) goals[k] f (by
        rw [List.nodup_append]
        refine ⟨nd, by simp, fun x hx y hy z => ?_⟩
        simp at hy
        subst hy z
        exact hin hx) (fun x hx => by
        rcases List.mem_append.mp hx with hx | hx
        · exact hb x hx
        · simp at hx; subst hx; exact hh) (hr _ (List.getElem_mem hk)) (by simp; omega) (by omega)
      refine ⟨ring', here', ?_, c1, fun x hx => c2 x (by simp [hx]), c2 _ (by simp), c4⟩
      rw [← e2]
      simp only [whileL]
      simp [e, ix, ap, -gIx_l]
def lL (rs : List (List Int)) : List D := rs.map fun r => D.lst (iL r)
theorem rings_turn {goals : List Int} {n : Nat} (hg : goals.length = n) (hr : ∀ g ∈ goals, 0 ≤ g ∧ g < n) (hn : n ≤ 200) {rs : List (List Int)} {kn : List Int} {x : Int} (hx : 0 ≤ x ∧ x < n) (hrl : rs.length ≤ 1000) (hkl : kn.length ≤ 100000) {a4 a5 : Option TS.R} :
    ∃ (rs' : List (List Int)) (kn' : List Int) (a4' a5' : Option TS.R), g__law_rings_2B [some (.imm (.lst (iL goals))), some (.imm (.int x)), some (.own (.l (lL rs))), some (.own (.l (iL kn))), a4, a5] = .nx [some (.imm (.lst (iL goals))), some (.imm (.int x)), some (.own (.l (lL rs'))), some (.own (.l (iL kn'))), a4', a5'] ∧
      ((rs' = rs ∧ kn' = kn ∧ x ∈ kn) ∨ ∃ ring, rs' = rs ++ [ring] ∧ kn' = kn ++ ring ∧ x ∈ ring ∧ ring.length ≤ n ∧ ∀ y ∈ ring, 0 ≤ y ∧ y < n) := by
  have e := gNotIn_l x kn
  by_cases hin : x ∈ kn
  · rw [decide_eq_true hin] at e
    refine ⟨rs, kn, a4, a5, ?_, .inl ⟨rfl, rfl, hin⟩⟩
    simp [e]
  · rw [decide_eq_false hin] at e
    obtain ⟨ring, here', e2, c1, c2, c3, c4⟩ := ring_while hg hr (by omega) (s1 := some (.imm (.int x))) (s2 := some (.own (.l (lL rs)))) (s3 := some (.own (.l (iL kn)))) n [] x (n + 2) (by simp) (fun y hy => by simp at hy) hx (by simp) (by omega)
    refine ⟨rs ++ [ring], kn ++ ring, some (.imm (.lst (iL ring))), some (.imm (.int here')), ?_, .inr ⟨ring, rfl, rfl, c3, c4, c1⟩⟩
    have gl : (iL goals).length = n := by rw [iL_len, hg]
    have mu : muN 0 [some (.imm (.lst (iL goals))), some (.imm (.int x)), some (.own (.l (lL rs))), some (.own (.l (iL kn))), some (.own (.l [])), some (.imm (.int x))] = n + 2 := by simp [muN, gl]
    have e2' : whileL (fTst (fBin gNotIn (vI 5) (vP 4))) g__law_rings_2_1a_2B (n + 2) [some (.imm (.lst (iL goals))), some (.imm (.int x)), some (.own (.l (lL rs))), some (.own (.l (iL kn))), some (.own (.l [])), some (.imm (.int x))] = .nx [some (.imm (.lst (iL goals))), some (.imm (.int x)), some (.own (.l (lL rs))), some (.own (.l (iL kn))), some (.own (.l (iL ring))), some (.imm (.int here'))] := e2
    have W : g__law_rings_2_1a_2 [some (.imm (.lst (iL goals))), some (.imm (.int x)), some (.own (.l (lL rs))), some (.own (.l (iL kn))), some (.own (.l [])), some (.imm (.int x))] = .nx [some (.imm (.lst (iL goals))), some (.imm (.int x)), some (.own (.l (lL rs))), some (.own (.l (iL kn))), some (.own (.l (iL ring))), some (.imm (.int here'))] := by
      show whileL _ _ (muN 0 _) _ = _
      rw [mu]
      exact e2'
    have ga : gAdd (.lst (iL kn)) (.lst (iL ring)) = some (.own (.l (iL (kn ++ ring)))) := gCat_ints _ _ (by omega)
    have ap : mAppend (lL rs) [.lst (iL ring)] = some (.non, lL (rs ++ [ring])) := by
      have : (lL rs).length < 16777216 := by simp [lL]; omega
      have e : lL (rs ++ [ring]) = lL rs ++ [.lst (iL ring)] := by simp [lL]
      simp only [mAppend, this, if_true, e]
    have T : fTst (fBin gNotIn (vI 1) (vP 3)) [some (.imm (.lst (iL goals))), some (.imm (.int x)), some (.own (.l (lL rs))), some (.own (.l (iL kn))), a4, a5] = .ok true [some (.imm (.lst (iL goals))), some (.imm (.int x)), some (.own (.l (lL rs))), some (.own (.l (iL kn))), a4, a5] := by simp [e]
    have S1 : g__law_rings_2_1a_1 [some (.imm (.lst (iL goals))), some (.imm (.int x)), some (.own (.l (lL rs))), some (.own (.l (iL kn))), a4, a5] = .nx [some (.imm (.lst (iL goals))), some (.imm (.int x)), some (.own (.l (lL rs))), some (.own (.l (iL kn))), some (.own (.l [])), some (.imm (.int x))] := by simp
    show sIf (fTst (fBin gNotIn (vI 1) (vP 3))) (sSeq g__law_rings_2_1a_1 (sSeq g__law_rings_2_1a_2 (sSeq g__law_rings_2_1a_3 g__law_rings_2_1a_4))) sNil _ = _
    rw [ap_sIf, T, Res.bindS_ok]
    simp only [if_true]
    rw [ap_sSeq, S1, SR.bind_nx, ap_sSeq, W, SR.bind_nx]
    simp [ga, ap]
theorem rings_ok {goals : List Int} {n : Nat} (hg : goals.length = n) (hr : ∀ g ∈ goals, 0 ≤ g ∧ g < n) (hn : n ≤ 200) : ∃ rs, m__law_rings none [.lst (iL goals)] = .ok (.own (.l (lL rs))) none ∧ (∀ r ∈ rs, 0 < r.length ∧ r.length ≤ n ∧ ∀ x ∈ r, 0 ≤ x ∧ x < n) ∧ ∀ j : Nat, j < n → ∃ r ∈ rs, (j : Int) ∈ r := by
  obtain ⟨δ', ⟨rs, kn, a1, a4, a5, hl, hk, q1, q2, hcov, rfl⟩, e⟩ := for_inv (xs := nats 0 n) (inj := D.int) (tg := tName 1) (body := g__law_rings_2B) (δ := [some (.imm (.lst (iL goals))), none, some (.own (.l [])), some (.own (.l [])), none, none])
    (fun pre δ => ∃ (rs : List (List Int)) (kn : List Int) (a1 a4 a5 : Option TS.R), rs.length ≤ pre.length ∧ kn.length ≤ 200 * pre.length ∧ (∀ r ∈ rs, 0 < r.length ∧ r.length ≤ n ∧ ∀ x ∈ r, 0 ≤ x ∧ x < n) ∧ (∀ x ∈ kn, ∃ r ∈ rs, x ∈ r) ∧ (∀ x ∈ pre, x ∈ kn) ∧ δ = [some (.imm (.lst (iL goals))), a1, some (.own (.l (lL rs))), some (.own (.l (iL kn))), a4, a5])
    ⟨[], [], none, none, none, by simp, by simp, fun r hr => by simp at hr, fun x hx => by simp at hx, fun x hx => by simp at hx, rfl⟩ (fun pre x post δ hx ⟨rs, kn, a1, a4, a5, h1, h2, h3, h4, h5, hd⟩ => by
      obtain ⟨rfl, hi⟩ := nats_pre hx
      subst hd
      obtain ⟨rs', kn', b4, b5, e, c⟩ := rings_turn hg hr hn (rs := rs) (kn := kn) (x := (pre.length : Int)) (by omega) (by omega) (by omega) (a4 := a4) (a5 := a5)
      refine ⟨_, .inl ?_, rs', kn', some (.imm (.int (pre.length : Int))), b4, b5, ?_, ?_, ?_, ?_, ?_, rfl⟩
      · rw [ap_tNameI, SR.bind_nx]
        exact e
      · rcases c with ⟨rfl, rfl, _⟩ | ⟨ring, rfl, rfl, _⟩ <;> simp <;> omega
      · rcases c with ⟨rfl, rfl, _⟩ | ⟨ring, rfl, rfl, _, c4, _⟩ <;> simp <;> omega
      · rcases c with ⟨rfl, rfl, _⟩ | ⟨ring, rfl, rfl, c3, c4, c5⟩
        · exact h3
        · intro r hr
          rcases List.mem_append.mp hr with hr | hr
          · exact h3 r hr
          · simp at hr
            subst hr
            exact ⟨List.length_pos_of_mem c3, c4, c5⟩
      · rcases c with ⟨rfl, rfl, _⟩ | ⟨ring, rfl, rfl, c3, c4, c5⟩
        · exact h4
        · intro y hy
          rcases List.mem_append.mp hy with hy | hy
          · obtain ⟨r, hr, hm⟩ := h4 y hy
            exact ⟨r, by simp [hr], hm⟩
          · exact ⟨ring, by simp, hy⟩
      · intro y hy
        rcases List.mem_append.mp hy with hy | hy
        · have := h5 y hy
          rcases c with ⟨rfl, rfl, _⟩ | ⟨ring, rfl, rfl, c3, c4, c5⟩
          · exact this
          · simp [this]
        · simp at hy
          subst hy
          rcases c with ⟨rfl, rfl, z⟩ | ⟨ring, rfl, rfl, c3, c4, c5⟩
          · exact z
          · simp [c3])
  refine ⟨rs, ?_, q1, fun j hj => q2 _ (hcov _ (List.mem_of_getElem? (nats_at hj)))⟩
  have e' : forL (tName 1) g__law_rings_2B (iL (nats 0 n)) [some (.imm (.lst (iL goals))), none, some (.own (.l [])), some (.own (.l [])), none, none] = .nx [some (.imm (.lst (iL goals))), a1, some (.own (.l (lL rs))), some (.own (.l (iL kn))), a4, a5] := e
  have f2 : itRg1 (frz (fCal gLen (aOne (vP 0)))) [some (.imm (.lst (iL goals))), none, some (.own (.l [])), some (.own (.l [])), none, none] = .ok (iL (nats 0 n)) [some (.imm (.lst (iL goals))), none, some (.own (.l [])), some (.own (.l [])), none, none] := itRg1_ok (by omega) (by simp [hg])
  (unfold m__law_rings g__law_rings; unfold mir; rw [if_pos (by simp [ioN])]; simp only [ini, ioS, ioN, List.replicate, List.map_cons, List.map_nil, List.length_cons, List.length_nil, List.nil_append, List.cons_append, Nat.zero_add, Nat.reduceAdd, Nat.reduceSub])
  (rw [ap_sSeq]; (conv in (SR.bind _ _) => (arg 1; simp [])); (try rw [SR.bind_nx]))
  rw [ap_sSeq, show g__law_rings_2 _ = _ from for_st f2 e', SR.bind_nx]
  simp [outR, ioOut]
theorem cut_from (xs : List Int) (h : 0 < xs.length) : gSl (.lst (iL xs)) (some 1) none = some (.own (.l (iL (xs.drop 1)))) := by
  have e : cutD (iL xs) (some 1) none = iL (xs.drop 1) := by
    obtain ⟨x, ys, rfl⟩ : ∃ x ys, xs = x :: ys := by
      cases xs with
      | nil => simp at h
      | cons x ys => exact ⟨x, ys, rfl⟩
    simp [cutD, HT.sIx, iL]
    exact List.take_of_length_le (by simp)
  show some (R.own (.l (cutD (iL xs) (some 1) none))) = _
  rw [e]
theorem sum_bd {B : Int} : ∀ {xs : List Int}, (∀ x ∈ xs, -B ≤ x ∧ x ≤ B) → -(B * xs.length) ≤ xs.sum ∧ xs.sum ≤ B * xs.length
  | [], _ => by simp
  | x :: xs, h => by
    have h1 := h x (by simp)
    have h2 := sum_bd (xs := xs) fun y hy => h y (by simp [hy])
    rw [List.sum_cons, List.length_cons, Int.natCast_succ, Int.mul_add, Int.mul_one]
    omega
theorem turnsR_ok {o : OB} (h : Pot o) {ring : List Int} (h0 : 0 < ring.length) (hr : ring.length ≤ 200) {w f : Int} (hw : 0 ≤ w ∧ w < 4) (hf : -100000000000000000000000000000000000 ≤ f ∧ f ≤ 100000000000000000000000000000000000) : ∃ ts o', m__law_turns (some o) [.lst (iL ring), .int w, .int f] = .ok (.own (.l (iL ts))) (some o') ∧ Pot o' ∧ ts.length = ring.length ∧ ∀ u ∈ ts, -100000000000000000000000000000000000000 < u ∧ u < 100000000000000000000000000000000000000 := by
  obtain ⟨acc, δ2, hl, ⟨o1, ys, p1, hy, hyl, hyb, hd⟩, e⟩ := lc_inv (xs := ring) (inj := D.int) (i := 6) (fi := itSeq (vI 1)) (fe := frz (fBin gSub (frz (fOwnIo m__law_draw 0 (aCons (kD (.int 5)) aNil))) (kD (.int 2))))
    (δ := [some (.brw o), some (.imm (.lst (iL ring))), some (.imm (.int w)), some (.imm (.int f)), none, none, none]) (δ1 := [some (.brw o), some (.imm (.lst (iL ring))), some (.imm (.int w)), some (.imm (.int f)), none, none, none])
    (fun pre acc δ => ∃ o' ys, Pot o' ∧ acc = iL ys ∧ ys.length = pre.length ∧ (∀ u ∈ ys, -2 ≤ u ∧ u ≤ 2) ∧ δ = [some (.brw o'), some (.imm (.lst (iL ring))), some (.imm (.int w)), some (.imm (.int f)), none, none, none])
    (by simp; rfl) rfl (by omega) ⟨o, [], h, rfl, rfl, fun u hu => by simp at hu, rfl⟩ (fun pre x post acc δ hx ⟨o3, ys, p3, ha, hz, hb, hd⟩ => by
      subst ha hd
      obtain ⟨r, o4, e4, p4, a4, b4⟩ := draw_ok p3 (m := 5) (by decide) (by decide)
      refine ⟨.int (r - 2), _, by simp [e4]; rfl, o4, ys ++ [r - 2], p4, by simp [iL], by simp [hz], fun u hu => ?_, rfl⟩
      rcases List.mem_append.mp hu with hu | hu
      · exact hb u hu
      · simp at hu; subst hu; omega)
  subst hy hd
  have hyl' : ys.length = ring.length := hyl
  have e : fLc (stName 6) [6] (itSeq (vI 1)) tTrue (frz (fBin gSub (frz (fOwnIo m__law_draw 0 (aCons (kD (.int 5)) aNil))) (kD (.int 2)))) [some (.brw o), some (.imm (.lst (iL ring))), some (.imm (.int w)), some (.imm (.int f)), none, none, none] = .ok (.own (.l (iL ys))) [some (.brw o1), some (.imm (.lst (iL ring))), some (.imm (.int w)), some (.imm (.int f)), none, none, none] := e
  by_cases hw0 : w = 0
  · subst hw0
    refine ⟨ys, o1, ?_, p1, hyl', fun u hu => by have := hyb u hu; omega⟩
    generalize hE : (fLc (stName 6) [6] (itSeq (vI 1)) tTrue (frz (fBin gSub (frz (fOwnIo m__law_draw 0 (aCons (kD (.int 5)) aNil))) (kD (.int 2))))) = EE at e
    (unfold m__law_turns g__law_turns; unfold mir; rw [if_pos (by simp [ioN])]; simp only [ini, ioS, ioN, List.replicate, List.map_cons, List.map_nil, List.length_cons, List.length_nil, List.nil_append, List.cons_append, Nat.zero_add, Nat.reduceAdd, Nat.reduceSub])
    rw [show g__law_turns_1 = sAsg EE (tName 4) by rw [← hE]]
    (rw [ap_sSeq]; (conv in (SR.bind _ _) => (arg 1; simp [e])); (try rw [SR.bind_nx]))
    simp [outR, ioOut]
  · obtain ⟨x2, o2, e2, p2, m2⟩ := pick_ok p1 (xs := [1, 1, -1, 0]) (by decide) (by decide)
    obtain ⟨x3, o3, e3, p3, m3⟩ := pick_ok p2 (xs := [1, -1, 2, 0]) (by decide) (by decide)
    have e2' : m__law_pick (some o1) [.lst [.int 1, .int 1, .int (-1), .int 0]] = .ok (.imm (.int x2)) (some o2) := e2
    have e3' : m__law_pick (some o2) [.lst [.int 1, .int (-1), .int 2, .int 0]] = .ok (.imm (.int x3)) (some o3) := e3
    have b2 : -1 ≤ x2 ∧ x2 ≤ 1 := by simp at m2; omega
    have b3 : -1 ≤ x3 ∧ x3 ≤ 2 := by simp at m3; omega
    have q1 := gMul_i (i := f) (j := (ring.length : Int)) (by omega) (by omega)
    have fb : -(100000000000000000000000000000000000 * 200) ≤ f * (ring.length : Int) ∧ f * (ring.length : Int) ≤ 100000000000000000000000000000000000 * 200 := by
      constructor
      · have t1 : -100000000000000000000000000000000000 * (ring.length : Int) ≤ f * ring.length := Int.mul_le_mul_of_nonneg_right (by omega) (by omega)
        omega
      · have t1 : f * (ring.length : Int) ≤ 100000000000000000000000000000000000 * ring.length := Int.mul_le_mul_of_nonneg_right (by omega) (by omega)
        omega
    have q2 := gMul_i (i := f * (ring.length : Int)) (j := x2) (by omega) (by omega)
    have q3 := gMul_i (i := f) (j := x3) (by omega) (by omega)
    have d2 : f * (ring.length : Int) * x2 = 0 ∨ f * (ring.length : Int) * x2 = f * ring.length ∨ f * (ring.length : Int) * x2 = -(f * ring.length) := by
      rcases (show x2 = -1 ∨ x2 = 0 ∨ x2 = 1 by omega) with z | z | z <;> subst z <;> simp
    have d3 : f * x3 = 0 ∨ f * x3 = f ∨ f * x3 = -f ∨ f * x3 = 2 * f := by
      rcases (show x3 = -1 ∨ x3 = 0 ∨ x3 = 1 ∨ x3 = 2 by omega) with z | z | z | z <;> subst z
      · exact .inr (.inr (.inl (by omega)))
      · exact .inl (by omega)
      · exact .inr (.inl (by omega))
      · exact .inr (.inr (.inr (by omega)))
    have dr : ∃ d : Int, gIx (.lst [.int 0, .int (f * (ring.length : Int) * x2), .int (f * x3)]) (.int (w - 1)) = some (.imm (.int d)) ∧ -30000000000000000000000000000000000000 ≤ d ∧ d ≤ 30000000000000000000000000000000000000 := by
      rcases (show w = 1 ∨ w = 2 ∨ w = 3 by omega) with z | z | z <;> subst z
      · exact ⟨0, rfl, by decide, by decide⟩
      · exact ⟨_, rfl, by omega, by omega⟩
      · exact ⟨_, rfl, by omega, by omega⟩
    obtain ⟨d, ed, d0, d1⟩ := dr
    have cf := cut_from ys (by omega)
    have gs := gSum_l (ys.drop 1)
    have sb := sum_bd (B := 2) (xs := ys.drop 1) fun x hx => hyb x (List.mem_of_mem_drop hx)
    have dl : (ys.drop 1).length = ring.length - 1 := by rw [List.length_drop, hyl']
    have ca := gCat_ints (ys.drop 1) [d - (ys.drop 1).sum] (by rw [dl]; simp; omega)
    have ca' : gAdd (.lst (iL (ys.drop 1))) (.lst [.int (d - (ys.drop 1).sum)]) = some (.own (.l (iL (ys.drop 1 ++ [d - (ys.drop 1).sum])))) := ca
    rw [dl] at sb
    refine ⟨ys.drop 1 ++ [d - (ys.drop 1).sum], o3, ?_, p3, by rw [List.length_append, dl]; simp; omega, fun u hu => ?_⟩
    · generalize hE : (fLc (stName 6) [6] (itSeq (vI 1)) tTrue (frz (fBin gSub (frz (fOwnIo m__law_draw 0 (aCons (kD (.int 5)) aNil))) (kD (.int 2))))) = EE at e
      generalize f * (ring.length : Int) * x2 = A2 at *
      generalize f * (ring.length : Int) = A1 at *
      generalize f * x3 = A3 at *
      generalize (ys.drop 1).sum = SM at *
      generalize (ys.drop 1) = Y at *
      (unfold m__law_turns g__law_turns; unfold mir; rw [if_pos (by simp [ioN])]; simp only [ini, ioS, ioN, List.replicate, List.map_cons, List.map_nil, List.length_cons, List.length_nil, List.nil_append, List.cons_append, Nat.zero_add, Nat.reduceAdd, Nat.reduceSub])
      rw [show g__law_turns_1 = sAsg EE (tName 4) by rw [← hE]]
      (rw [ap_sSeq]; (conv in (SR.bind _ _) => (arg 1; simp [e])); (try rw [SR.bind_nx]))
      (rw [ap_sSeq]; (conv in (SR.bind _ _) => (arg 1; simp [hw0])); (try rw [SR.bind_nx]))
      (rw [ap_sSeq]; (conv in (SR.bind _ _) => (arg 1; simp [q1, e2', q2, e3', q3, ed, -gIx_l])); (try rw [SR.bind_nx]))
      simp [outR, ioOut, cf, gs, ca', OB.toD]
    · rcases List.mem_append.mp hu with hu | hu
      · have := hyb u (List.mem_of_mem_drop hu); omega
      · rw [List.mem_singleton] at hu; subst hu; omega
def RtR (goals : List Int) (n : Int) (found : List Int) (j : Nat) : Prop := ∃ g u : Int, goals[j]? = some g ∧ -100000000000000000000000000000000000000 < u ∧ u < 100000000000000000000000000000000000000 ∧ found[j]? = some (g - j + n * u)
theorem zipD_ints : ∀ (xs ys : List Int), zipD (iL xs) (iL ys) = (xs.zip ys).map fun p => .tup [.int p.1, .int p.2]
  | [], _ => by simp [iL, zipD]
  | x :: xs, [] => by simp [iL, zipD]
  | x :: xs, y :: ys => by
    rw [iL_cons, iL_cons, zipD, zipD_ints xs ys]; rfl
theorem table_ring {o : OB} {goals : List Int} {k : Nat} (hg : goals.length = k) (hk : 0 < k ∧ k ≤ 200) {f : Int} {s3 s5 : Option TS.R} : ∀ (ps : List (Int × Int)) (found : List Int) (s7 s8 : Option TS.R), found.length = k → (∀ p ∈ ps, (0 ≤ p.1 ∧ p.1 < k) ∧ -100000000000000000000000000000000000000 < p.2 ∧ p.2 < 100000000000000000000000000000000000000) →
    ∃ found' a7 a8, forL (tTup 2 (tsCons (tName 7) (tsCons (tName 8) tsNil))) g__law_table_2_1B (ps.map fun p => .tup [.int p.1, .int p.2]) [some (.brw o), some (.imm (.int (k : Int))), some (.imm (.int f)), s3, some (.imm (.lst (iL goals))), s5, some (.own (.l (iL found))), s7, s8] = .nx [some (.brw o), some (.imm (.int (k : Int))), some (.imm (.int f)), s3, some (.imm (.lst (iL goals))), s5, some (.own (.l (iL found'))), a7, a8] ∧ found'.length = k ∧ (∀ j, RtR goals k found j → RtR goals k found' j) ∧ ∀ p ∈ ps, RtR goals k found' p.1.toNat := by
  intro ps
  induction ps with
  | nil => intro found s7 s8 hl _; exact ⟨found, s7, s8, rfl, hl, fun j h => h, fun p hp => by simp at hp⟩
  | cons p ps ih =>
    intro found s7 s8 hl hb
    obtain ⟨x, u⟩ := p
    obtain ⟨⟨x0, x1⟩, u0, u1⟩ := hb (x, u) (by simp)
    obtain ⟨j, rfl⟩ := Int.eq_ofNat_of_zero_le (show 0 ≤ x from x0)
    have hj : j < goals.length := by have : (j : Int) < k := x1; omega
    have ix := gIx_ints hj
    have m := gMul_i (i := (k : Int)) (j := u) (by omega) (by dsimp only at u0 u1; omega)
    have st' := setOB_int (acc := found) (j := (j : Int)) (by omega) (by omega) (goals[j] - (j : Int) + (k : Int) * u)
    rw [Int.toNat_natCast] at st'
    have new : RtR goals k (found.set j (goals[j] - (j : Int) + (k : Int) * u)) j := ⟨goals[j], u, List.getElem?_eq_getElem hj, u0, u1, by rw [List.getElem?_set_self (by omega)]⟩
    have keep : ∀ i, RtR goals k found i → RtR goals k (found.set j (goals[j] - (j : Int) + (k : Int) * u)) i := fun i hi => by
      by_cases e : j = i
      · subst e; exact new
      · obtain ⟨g, v, h1, h2, h3, h5⟩ := hi
        exact ⟨g, v, h1, h2, h3, by rw [List.getElem?_set_ne e]; exact h5⟩
    obtain ⟨found', a7, a8, e, l, k1, k2⟩ := ih (found.set j (goals[j] - (j : Int) + (k : Int) * u)) (some (.imm (.int (j : Int)))) (some (.imm (.int u))) (by simp [hl]) (fun q hq => hb q (by simp [hq]))
    refine ⟨found', a7, a8, ?_, l, fun i hi => k1 i (keep i hi), fun q hq => ?_⟩
    · rw [← e, List.map_cons]
      generalize (ps.map fun p => D.tup [.int p.1, .int p.2]) = PS at *
      simp only [forL]
      simp [ix, m, st', -gIx_l]
    · rcases List.mem_cons.mp hq with rfl | hq
      · exact k1 j new
      · exact k2 q hq
theorem zip_fst {xs ys : List Int} (h : xs.length ≤ ys.length) {x : Int} (hx : x ∈ xs) : ∃ y, (x, y) ∈ xs.zip ys := by
  obtain ⟨i, hi, rfl⟩ := List.getElem_of_mem hx
  exact ⟨ys[i]'(by omega), List.mem_of_getElem? (i := i) (by rw [List.getElem?_zip_eq_some]; exact ⟨List.getElem?_eq_getElem hi, List.getElem?_eq_getElem (by omega)⟩)⟩
theorem tableR_ok {o : OB} (h : Pot o) {n f : Int} (hn : 0 < n ∧ n ≤ 200) (hf : -100000000000000000000000000000000000 ≤ f ∧ f ≤ 100000000000000000000000000000000000) : ∃ goals t o', m__law_table (some o) [.int n, .int f] = .ok (.own (.l (iL t))) (some o') ∧ Pot o' ∧ goals.Perm (nats 0 n.toNat) ∧ t.length = n.toNat ∧ ∀ j : Nat, j < t.length → RtR goals n t j := by
  obtain ⟨k, rfl⟩ : ∃ k : Nat, n = k := ⟨n.toNat, by omega⟩
  have hlen := nats_len 0 k
  obtain ⟨goals, o1, e1, p1, q1⟩ := mixed_ok h (xs := nats 0 k) (by omega)
  have hg : goals.length = k := by rw [q1.length_eq, hlen]
  have hgm : ∀ g ∈ goals, 0 ≤ g ∧ g < k := fun g hm => nats_mem (q1.mem_iff.mp hm)
  obtain ⟨w, o2, e2, p2, w0, w1⟩ := draw_ok p1 (m := 4) (by decide) (by decide)
  have q := fLRg1_ok (f := vI 1) (δ := [some (.brw o), some (.imm (.int (k : Int))), some (.imm (.int f)), none, none, none, none, none, none]) (k := k) (by omega) (by simp)
  obtain ⟨rs, e3, c1, c2⟩ := rings_ok hg hgm (by omega)
  obtain ⟨δ', ⟨o', found, a3, a7, a8, p', hl, hcov, rfl⟩, e⟩ := for_inv (xs := rs) (inj := fun r => D.lst (iL r)) (tg := tName 3) (body := g__law_table_2B) (δ := [some (.brw o2), some (.imm (.int (k : Int))), some (.imm (.int f)), none, some (.imm (.lst (iL goals))), some (.imm (.int w)), some (.own (.l (iL (List.replicate k 0)))), none, none])
    (fun pre δ => ∃ (o' : OB) (found : List Int) (a3 a7 a8 : Option TS.R), Pot o' ∧ found.length = k ∧ (∀ r ∈ pre, ∀ x ∈ r, RtR goals k found x.toNat) ∧ δ = [some (.brw o'), some (.imm (.int (k : Int))), some (.imm (.int f)), a3, some (.imm (.lst (iL goals))), some (.imm (.int w)), some (.own (.l (iL found))), a7, a8])
    ⟨o2, List.replicate k 0, none, none, none, p2, by simp, fun r hr => by simp at hr, rfl⟩ (fun pre r post δ hx ⟨o3, found, a3, a7, a8, p3, hl, hcov, hd⟩ => by
      subst hd
      obtain ⟨r0, r1, r2⟩ := c1 r (by rw [hx]; simp)
      obtain ⟨ts, o4, e4, p4, tl, tb⟩ := turnsR_ok p3 (ring := r) r0 (by omega) (w := w) ⟨w0, w1⟩ hf
      obtain ⟨found', b7, b8, e5, l5, k1, k2⟩ := table_ring (o := o4) hg (by omega) (f := f) (s3 := some (.imm (.lst (iL r)))) (s5 := some (.imm (.int w))) (r.zip ts) found a7 a8 hl (fun p hp => ⟨r2 p.1 (List.of_mem_zip hp).1, tb p.2 (List.of_mem_zip hp).2⟩)
      refine ⟨_, .inl ?_, o4, found', some (.imm (.lst (iL r))), b7, b8, p4, l5, fun r' hr' x hx' => ?_, rfl⟩
      · rw [ap_tNameI, SR.bind_nx, ← e5, ← zipD_ints]
        generalize iL r = RD at *
        generalize iL ts = TD at *
        show sFor _ _ _ _ = _
        rw [ap_sFor]
        simp [itZip, e4, OB.toD]
      · rcases List.mem_append.mp hr' with hr' | hr'
        · exact k1 _ (hcov r' hr' x hx')
        · simp at hr'
          subst hr'
          obtain ⟨u, hu⟩ := zip_fst (ys := ts) (by omega) hx'
          exact k2 (x, u) hu)
  refine ⟨goals, found, o', ?_, p', by simpa using q1, by rw [hl]; rfl, fun j hj => ?_⟩
  · have e' : forL (tName 3) g__law_table_2B (lL rs) [some (.brw o2), some (.imm (.int (k : Int))), some (.imm (.int f)), none, some (.imm (.lst (iL goals))), some (.imm (.int w)), some (.own (.l (iL (List.replicate k 0)))), none, none] = .nx [some (.brw o'), some (.imm (.int (k : Int))), some (.imm (.int f)), a3, some (.imm (.lst (iL goals))), some (.imm (.int w)), some (.own (.l (iL found))), a7, a8] := e
    have rp : gMul (.lst [.int 0]) (.int (k : Int)) = some (.own (.l (iL (List.replicate k 0)))) := by
      have := gRep_nat (xs := [0]) (k := k) (by omega) (by simp; omega)
      rw [show (List.replicate k [(0 : Int)]).flatten = List.replicate k 0 by simp] at this
      exact this
    have f2 : itSeq (frz (fOwn m__law_rings (aCons (vI 4) aNil))) [some (.brw o2), some (.imm (.int (k : Int))), some (.imm (.int f)), none, some (.own (.l (iL goals))), some (.imm (.int w)), some (.own (.l (iL (List.replicate k 0)))), none, none] = .ok (lL rs) [some (.brw o2), some (.imm (.int (k : Int))), some (.imm (.int f)), none, some (.imm (.lst (iL goals))), some (.imm (.int w)), some (.own (.l (iL (List.replicate k 0)))), none, none] := by simp [e3, OB.toD]
    generalize iL (List.replicate k 0) = Z0 at *
    (unfold m__law_table g__law_table; unfold mir; rw [if_pos (by simp [ioN])]; simp only [ini, ioS, ioN, List.replicate, List.map_cons, List.map_nil, List.length_cons, List.length_nil, List.nil_append, List.cons_append, Nat.zero_add, Nat.reduceAdd, Nat.reduceSub])
    (rw [ap_sSeq]; (conv in (SR.bind _ _) => (arg 1; simp [q, e1, e2, rp])); (try rw [SR.bind_nx]))
    rw [ap_sSeq, show g__law_table_2 _ = _ from for_st f2 e', SR.bind_nx]
    simp [outR, ioOut]
  · obtain ⟨r, hr, hm⟩ := c2 j (by omega)
    have := hcov r hr j hm
    rwa [Int.toNat_natCast] at this
theorem tableR_good {o : OB} (h : Pot o) {n f : Int} (hn : 0 < n ∧ n ≤ 200) (hf : -100000000000000000000000000000000000 ≤ f ∧ f ≤ 100000000000000000000000000000000000) : ∃ t o', m__law_table (some o) [.int n, .int f] = .ok (.own (.l (iL t))) (some o') ∧ Pot o' ∧ t.length = n.toNat ∧ Good t ∧ ∀ x ∈ t, -100000000000000000000000000000000000000000 < x ∧ x < 100000000000000000000000000000000000000000 := by
  obtain ⟨goals, t, o', e, p, q, l, r⟩ := tableR_ok h hn hf
  obtain ⟨k, rfl⟩ : ∃ k : Nat, n = k := ⟨n.toNat, by omega⟩
  rw [Int.toNat_natCast] at q l
  refine ⟨t, o', e, p, l, good_goals (by omega) (by omega) q l (fun j hj => ?_), fun x hx => ?_⟩
  · obtain ⟨g, u, h1, h2, h3, h5⟩ := r j hj
    exact ⟨g, u, h1, h5⟩
  · obtain ⟨j, hj, rfl⟩ := List.getElem_of_mem hx
    obtain ⟨g, u, h1, h2, h3, h5⟩ := r j hj
    rw [List.getElem?_eq_getElem hj] at h5
    have h5 := Option.some.inj h5
    rw [h5]
    obtain ⟨g0, g1⟩ := nats_mem (q.mem_iff.mp (List.mem_of_getElem? h1))
    have b1 : (k : Int) * u ≤ (k : Int) * 100000000000000000000000000000000000000 := Int.mul_le_mul_of_nonneg_left (by omega) (by omega)
    have b2 : (k : Int) * (-100000000000000000000000000000000000000) ≤ (k : Int) * u := Int.mul_le_mul_of_nonneg_left (by omega) (by omega)
    omega
end
end K21

namespace K21
open PySem L2 TS
noncomputable section
-- needs: plan
end
end K21

namespace K21
open PySem L2 TS
noncomputable section
-- needs: plan
end
end K21

namespace K21
open PySem L2 TS
noncomputable section
-- needs: shift
structure IsDly (f : Int → Int) (d : Int) : Prop where
  nn : 0 ≤ d
  le : ∀ z, -f z ≤ d
  at_ : d = 0 ∨ ∃ z, d = -f z
theorem IsDly.uniq {f : Int → Int} {d e : Int} (h : IsDly f d) (h' : IsDly f e) : d = e := by
  have a : d ≤ e := by rcases h.at_ with z | ⟨z, q⟩; · have := h'.nn; omega
                       · have := h'.le z; omega
  have b : e ≤ d := by rcases h'.at_ with z | ⟨z, q⟩; · have := h.nn; omega
                       · have := h.le z; omega
  omega
theorem act_mem {t : List Int} (h : 0 < t.length) (z : Int) : act t z ∈ t := by
  have b1 := Int.emod_nonneg z (show (t.length : Int) ≠ 0 by omega)
  have b2 := Int.emod_lt_of_pos z (show 0 < (t.length : Int) by omega)
  obtain ⟨i, ei⟩ := Int.eq_ofNat_of_zero_le b1
  rw [← act_mod, ei]
  exact List.mem_of_getElem? (act_get' (by omega))
theorem mem_act {t : List Int} {x : Int} (h : x ∈ t) : ∃ z, act t z = x := by
  obtain ⟨i, hi, e⟩ := List.getElem_of_mem h
  exact ⟨i, act_get (by rw [List.getElem?_eq_getElem hi, e])⟩
end
end K21

namespace K21
open PySem L2 TS
noncomputable section
-- needs: plan
end
end K21

namespace K21
open PySem L2 TS
noncomputable section
-- needs: plan delay pprop flowp
def rowOf (c : Int) (p : Nat × Int) : D := .tup [.int (p.1 : Int), .int (if c - p.2 < c then c - p.2 else c), .int (if c < c - p.2 then c - p.2 else c)]
def BdT (t : List Int) : Prop := ∀ x ∈ t, x.natAbs < 2 ^ 255
theorem BdT.least {t : List Int} (h : Good t) (hb : BdT t) : BdT (least t) := fun x hx => by
  obtain ⟨z, rfl⟩ := mem_act hx
  rw [least_act h.pos]
  exact hb _ (act_mem h.pos z)
end
end K21

namespace K21
open PySem L2 TS
noncomputable section
-- needs: cuts
end
end K21

namespace K21
open PySem L2 TS
noncomputable section
-- needs: tracks cplaces
theorem sumK_take {s : List Int} {c : List Nat} : ∀ k : Nat, k ≤ c.length → sumK s c k = ((c.take k).map fun j : Nat => act s (j : Int)).sum
  | 0, _ => by simp [sumK]
  | k + 1, hk => by
    have e : c.take (k + 1) = c.take k ++ [c[k]'(by omega)] := by rw [List.take_add_one, List.getElem?_eq_getElem (by omega)]; rfl
    rw [sumK, sumK_take k (by omega), e, Nat.mod_eq_of_lt (by omega), List.getD_eq_getElem?_getD, List.getElem?_eq_getElem (by omega), List.map_append, List.sum_append]
    show _ = _ + (act s ((c[k]'(by omega) : Nat) : Int) + 0)
    rw [Int.add_zero]; rfl
theorem sumK_all (s : List Int) (c : List Nat) : sumK s c c.length = (c.map fun j : Nat => act s (j : Int)).sum := by rw [sumK_take c.length (Nat.le_refl _), List.take_length]
end
end K21

namespace K21
open PySem L2 TS
noncomputable section
-- needs:
set_option exponentiation.threshold 6000
structure It2 (dp bk : Nat) (p : PyData) : Prop where
  sw : p.showable = true
  ls : p.leavesShort 600 = true
  so : PyData.strOk p.shown = true
  dp : p.depth ≤ dp
  bk : p.bulk ≤ bk
theorem it2_int {i : Int} (h : i.natAbs < 2 ^ 1900) : It2 0 0 (.int i) where
  sw := by
    have := log2_lt h (by decide)
    simp only [PyData.showable, decide_eq_true_eq]
    omega
  ls := by
    have h3 : (PyData.shown (.int i)).length ≤ 600 := by
      unfold PyData.shown
      have e := int_text_length_le10 (a := i) (k := 578) (by decide) (Nat.lt_trans h (by decide +kernel))
      show (Str.ofString (toString i)).length ≤ 600
      simp only [Str.length, Str.ofString_eq_toList, List.size_toArray, List.length_map]
      rw [String.length_toList]
      omega
    simp only [PyData.leavesShort, decide_eq_true_eq]
    exact h3
  so := by unfold PyData.shown; exact strOk_of _
  dp := by simp [PyData.depth]
  bk := by simp [PyData.bulk]
theorem it2_all {d b : Nat} {ps : List PyData} (h : ∀ p ∈ ps, It2 d b p) : PyData.showableAll ps = true ∧ PyData.leavesShortAll 600 ps = true ∧ (∀ t ∈ PyData.shownAll ps, PyData.strOk t = true) ∧ PyData.depthAll ps ≤ d ∧ PyData.bulkAll ps ≤ (b + 1) * ps.length := by
  induction ps with
  | nil => simp [PyData.showableAll, PyData.leavesShortAll, PyData.shownAll, PyData.depthAll, PyData.bulkAll]
  | cons p ps ih =>
    obtain ⟨h1, h2, h3, h4, h5⟩ := ih fun q hq => h q (by simp [hq])
    have hp := h p (by simp)
    refine ⟨by simp [PyData.showableAll, hp.sw, h1], by simp [PyData.leavesShortAll, hp.ls, h2], ?_, ?_, ?_⟩
    · intro t ht
      rw [PyData.shownAll, List.mem_cons] at ht
      rcases ht with rfl | ht
      · exact hp.so
      · exact h3 t ht
    · have := hp.dp
      simp only [PyData.depthAll]
      omega
    · have := hp.bk
      simp only [PyData.bulkAll, List.length_cons, Nat.mul_succ]
      omega
theorem it2_list {d b n : Nat} {ps : List PyData} (h : ∀ p ∈ ps, It2 d b p) (hn : (b + 1) * ps.length ≤ n) : It2 (d + 1) n (.list ps) := by
  obtain ⟨h1, h2, h3, h4, h5⟩ := it2_all h
  refine ⟨by simpa [PyData.showable] using h1, by simpa [PyData.leavesShort] using h2, ?_, by simp only [PyData.depth]; omega, by simp only [PyData.bulk]; omega⟩
  unfold PyData.shown listText
  exact strOk_app (strOk_from _ _ _ (strOk_of _) h3) (strOk_of _)
theorem it2_tuple {d b n : Nat} {ps : List PyData} (h : ∀ p ∈ ps, It2 d b p) (hn : (b + 1) * ps.length ≤ n) : It2 (d + 1) n (.tuple ps) := by
  obtain ⟨h1, h2, h3, h4, h5⟩ := it2_all h
  refine ⟨by simpa [PyData.showable] using h1, by simpa [PyData.leavesShort] using h2, ?_, by simp only [PyData.depth]; omega, by simp only [PyData.bulk]; omega⟩
  unfold PyData.shown tupleText
  exact strOk_app (strOk_app (strOk_of _) (strOk_join _ h3)) (strOk_of _)
theorem textT {D0 : D} {p : PyData} {d b : Nat} (e : toPt D0 = some p) (h : It2 d b p) (hd : d ≤ 32) (hb : 602 * b + 600 ≤ 16777216) : ∃ X, gReprT D0 = some X ∧ PyData.strOk X = true := by
  have hl := PyData.shown_le_bulk 600 (by decide) p h.ls
  have h1 := h.bk
  have h2 := h.dp
  have h3 : (600 + 2) * p.bulk ≤ 602 * b := Nat.mul_le_mul_left _ h1
  have hs : shOkD p = true := gd_true ⟨h.sw, by omega, by show _ ≤ 16777216; omega⟩
  exact ⟨p.shown, by simp only [gReprT, e, hs, if_true], h.so⟩
theorem neT {X : Str} (h : PyData.strOk X = true) : gNe (.str X) (.str X) = some (.imm (.bl false)) := gNe_self (p := .str X) (by simp [toP]) (shaped_str h)
theorem It2.mono {d b d' b' : Nat} {p : PyData} (h : It2 d b p) (h1 : d ≤ d') (h2 : b ≤ b') : It2 d' b' p := ⟨h.sw, h.ls, h.so, Nat.le_trans h.dp h1, Nat.le_trans h.bk h2⟩
end
end K21

namespace K21
open PySem L2 TS
noncomputable section
-- needs: addr4v tableR5 lawat trup it2
set_option exponentiation.threshold 200000
theorem repOf_len {t : List Int} {p : Nat} (hp : p ≤ t.length) : (repOf p t).length = t.length / p * p := by
  unfold repOf
  have e : ∀ k : Nat, ((List.replicate k (t.take p)).flatten).length = k * p := fun k => by
    induction k with
    | zero => simp
    | succ k ih => rw [List.replicate_succ, List.flatten_cons, List.length_append, ih, List.length_take, Nat.min_eq_left hp, Nat.succ_mul, Nat.add_comm]
  exact e _
theorem isPer_rep {t : List Int} {p : Nat} (h0 : 0 < p) (hp : p ≤ t.length) : isPer t p = decide (repOf p t = t) := by
  unfold isPer
  by_cases e : repOf p t = t
  · have l := repOf_len hp
    rw [e] at l
    have : t.length % p = 0 := by rw [l]; exact Nat.mul_mod_left _ _
    rw [decide_eq_true this, decide_eq_true e]; rfl
  · rw [decide_eq_false e, Bool.and_false]
theorem ll_turn {t : List Int} (ht : t.length ≤ 2520) {p : Nat} (hp : 0 < p) (hl : p ≤ t.length) :
    g__law_least_1B [some (.imm (.lst (iL t))), some (.imm (.int (p : Int)))] = if isPer t p then .rt (.own (.l (iL (t.take p)))) [some (.imm (.lst (iL t))), some (.imm (.int (p : Int)))] else .nx [some (.imm (.lst (iL t))), some (.imm (.int (p : Int)))] := by
  have e2 : gFdiv (.int (t.length : Int)) (.int (p : Int)) = some (.imm (.int ((t.length : Int) / p))) := gFdiv_i (by omega) (by omega)
  have e3 := lt_rep ht hp (show p ≤ 2520 by omega)
  have e4 := gSl_to t p
  rw [isPer_rep hp hl]
  by_cases e : repOf p t = t
  · have e5 : gEq (.lst (iL (repOf p t))) (.lst (iL t)) = some (.imm (.bl true)) := by rw [gEq_l]; simp [e]
    rw [decide_eq_true e]
    generalize repOf p t = RR at *
    simp [e2, e3, e4, e5, -gEq_l]
  · have e5 : gEq (.lst (iL (repOf p t))) (.lst (iL t)) = some (.imm (.bl false)) := by rw [gEq_l]; simp [e]
    rw [decide_eq_false e]
    generalize repOf p t = RR at *
    simp [e2, e3, e4, e5, -gEq_l]
theorem law_least_ok {t : List Int} (h : Good t) : ∃ r, (r = .own (.l (iL (least t))) ∨ r = .imm (.lst (iL (least t)))) ∧ m__law_least none [.lst (iL t)] = .ok r none := by
  have h0 := h.pos
  have h1 := h.len
  have loop : ∀ (k i : Nat) (s : Option TS.R), 0 < i → i + k ≤ t.length →
      (∃ s', forL (tName 1) g__law_least_1B (iL (nats i k)) [some (.imm (.lst (iL t))), s] = (match (List.range' i k).find? (isPer t) with
        | some p => .rt (.own (.l (iL (t.take p)))) [some (.imm (.lst (iL t))), s']
        | none => .nx [some (.imm (.lst (iL t))), s'])) := by
    intro k
    induction k with
    | zero => intro i s _ _; exact ⟨s, by simp [nats, forL, iL]⟩
    | succ k ih =>
      intro i s hi hk
      have e := ll_turn h1 hi (by omega)
      rw [nats_succ]
      simp only [forL, ap_tNameI, SR.bind_nx, List.set_cons_succ, List.set_cons_zero, e, List.range'_succ, List.find?_cons]
      cases hp : isPer t i with
      | true => exact ⟨_, rfl⟩
      | false =>
        obtain ⟨s', e2⟩ := ih (i + 1) (some (.imm (.int i))) (by omega) (by omega)
        exact ⟨s', by simp only [Bool.false_eq_true, if_false]; exact e2⟩
  obtain ⟨s', e⟩ := loop (t.length - 1) 1 none (by omega) (by omega)
  have it : itRg2 (kD (.int 1)) (frz (fCal gLen (aOne (vP 0)))) [some (.imm (.lst (iL t))), none] = .ok (iL (nats 1 (t.length - 1))) [some (.imm (.lst (iL t))), none] := itRg2_ok (i := 1) (k := t.length) (by omega) (by omega) rfl (by simp)
  have s4 : ∀ G : FS, mir 2 1 G none [.lst (iL t)] = outR none (G [some (.imm (.lst (iL t))), none]) := fun G => by simp [mir, ini, ioS, ioN]
  have s3 : g__law_least [some (.imm (.lst (iL t))), none] = ((forL (tName 1) g__law_least_1B (iL (nats 1 (t.length - 1))) [some (.imm (.lst (iL t))), none])).bind (sRet (vR 0)) := by
    unfold g__law_least
    rw [ap_sSeq]
    show (sFor (itRg2 (kD (.int 1)) (frz (fCal gLen (aOne (vP 0))))) (tName 1) g__law_least_1B _).bind _ = _
    rw [ap_sFor, it, Res.bindS_ok]
  unfold m__law_least
  rw [s4, s3, e]
  unfold least leastP
  cases q : (List.range' 1 (t.length - 1)).find? (isPer t) with
  | some p => exact ⟨_, .inl rfl, rfl⟩
  | none => exact ⟨_, .inr (by simp), rfl⟩
theorem intsK_l : ∀ xs : List Int, intsK (iL xs) = some xs
  | [] => rfl
  | x :: xs => by
    have e := intsK_l xs
    show (intsK (iL xs)).map _ = _
    rw [e]; rfl
theorem cI_mem {l : List Nat} {a : Nat} : ((a : Int) ∈ cI l) ↔ a ∈ l := by
  unfold cI
  constructor
  · intro h
    obtain ⟨j, hj, e⟩ := List.mem_map.mp h
    have : j = a := by omega
    exact this ▸ hj
  · intro h; exact List.mem_map.mpr ⟨a, h, rfl⟩
def tot (s : List Int) (c : List Nat) : Int := (c.map fun j : Nat => act s (j : Int)).sum
def sumsU (t : List Int) (c : List Nat) : List Int := (List.range c.length).map fun k => tot t (c.take k)
theorem sumsU_len (t : List Int) (c : List Nat) : (sumsU t c).length = c.length := by simp [sumsU]
theorem sumsU_app (t : List Int) (c : List Nat) (x : Nat) : sumsU t (c ++ [x]) = sumsU t c ++ [tot t c] := by
  unfold sumsU
  rw [List.length_append, List.length_singleton, List.range_succ, List.map_append]
  congr 1
  · refine List.map_congr_left fun k hk => ?_
    rw [List.take_append_of_le_length (Nat.le_of_lt (List.mem_range.mp hk))]
  · simp
theorem lcy_while {t : List Int} (h : Good t) {a : Nat} {cs : List (List Nat)} (hcs : Cys t a cs) (hna : a ∉ cs.flatten) {s1 s2 s3 : Option TS.R} : ∀ (m : Nat) (c : List Nat) (here fuel : Nat) (us : List Int), Wk t a cs.flatten c here → c.length + m = t.length → m < fuel → us = sumsU t c →
    ∃ (c' : List Nat) (here' : Nat) (us' : List Int), whileL (fTst (fBin gNotIn (vI 6) (vP 4))) g__law_cycles_2_1a_2B fuel [some (.imm (.lst (iL t))), s1, s2, s3, some (.own (.l (iL (cI c)))), some (.own (.l (iL us))), some (.imm (.int (here : Int))), some (.imm (.int (tot t c)))] =
      .nx [some (.imm (.lst (iL t))), s1, s2, s3, some (.own (.l (iL (cI c')))), some (.own (.l (iL us'))), some (.imm (.int (here' : Int))), some (.imm (.int (tot t c')))] ∧ Wk t a cs.flatten c' here' ∧ here' ∈ c' ∧ us' = sumsU t c' := by
  have hlen := h.len
  have hp := h.pos
  intro m
  induction m with
  | zero =>
    intro c here fuel us w hm hf hu
    obtain ⟨f, rfl⟩ : ∃ f, fuel = f + 1 := ⟨fuel - 1, by omega⟩
    have hin : here ∈ c := nd_all t.length c w.nd w.path.lt (by omega) here w.hl
    refine ⟨c, here, us, ?_, w, hin, hu⟩
    have e := gNotIn_l (here : Int) (cI c)
    rw [decide_eq_true (cI_mem.mpr hin)] at e
    simp only [whileL]
    simp [e]
  | succ m ih =>
    intro c here fuel us w hm hf hu
    obtain ⟨f, rfl⟩ : ∃ f, fuel = f + 1 := ⟨fuel - 1, by omega⟩
    have e := gNotIn_l (here : Int) (cI c)
    by_cases hin : here ∈ c
    · refine ⟨c, here, us, ?_, w, hin, hu⟩
      rw [decide_eq_true (cI_mem.mpr hin)] at e
      simp only [whileL]
      simp [e]
    · rw [decide_eq_false (fun z => hin (cI_mem.mp z))] at e
      have hn : here ∉ cs.flatten ++ c := by
        intro z0
        rcases List.mem_append.mp z0 with z | z
        · by_cases c0 : c = []
          · rw [w.beg c0] at z
            exact hna z
          · have hp0 : 0 < c.length := List.length_pos_iff.mpr c0
            have last : c[c.length - 1]? = some c[c.length - 1] := List.getElem?_eq_getElem (by omega)
            have hlst := w.lst _ last
            obtain ⟨y, hy, e⟩ := hcs.pre here z
            have := nx_inj h (hcs.lt y hy) (w.path.lt _ (List.getElem_mem (by omega))) (e.trans hlst)
            exact w.dis _ (List.getElem_mem (show c.length - 1 < c.length by omega)) (this ▸ hy)
        · exact hin z
      have w' := w.next h hn
      obtain ⟨c', here', us', e2, w2, hin2, hu2⟩ := ih (c ++ [here]) (nx t here) f (us ++ [tot t c]) w' (by simp; omega) (by omega) (by rw [sumsU_app, hu])
      refine ⟨c', here', us', ?_, w2, hin2, hu2⟩
      rw [← e2]
      have ix := ix_get (act_get' (show here < t.length from w.hl))
      have ap1 := mAppend_int (xs := cI c) (by rw [show (cI c).length = c.length by simp [cI]]; omega) (here : Int)
      have ap2 := mAppend_int (xs := us) (by rw [hu, sumsU_len]; omega) (tot t c)
      have e4 : gMod (.int ((here : Int) + act t here)) (.int (t.length : Int)) = some (.imm (.int (nx t here : Nat))) := by
        rw [gMod_i (by omega), nx_int hp]
      have ec : cI (c ++ [here]) = cI c ++ [(here : Int)] := by simp [cI]
      have et : tot t (c ++ [here]) = tot t c + act t here := by unfold tot; rw [List.map_append, List.sum_append]; simp
      rw [ec, et]
      generalize act t (here : Int) = y at *
      generalize tot t c = T at *
      simp only [whileL]
      simp [e, ix, ap1, ap2, e4, -gIx_l]
def entC (s : List Int) (c : List Nat) : D := .tup [.ktp (cI c), .lst (iL (sumsU s c)), .int (drf s c)]
theorem lcys_turn {t : List Int} (h : Good t) {a : Nat} (ha : a < t.length) {es : List (List Nat)} (hcs : Cys t a es) (s4 s5 s6 s7 : Option TS.R) :
    ∃ (es' : List (List Nat)) (r4 r5 r6 r7 : Option TS.R), Cys t (a + 1) es' ∧ g__law_cycles_2B [some (.imm (.lst (iL t))), some (.imm (.int (a : Int))), some (.own (.l (es.map (entC t)))), some (.own (.l (iL (cI es.flatten)))), s4, s5, s6, s7] =
      .nx [some (.imm (.lst (iL t))), some (.imm (.int (a : Int))), some (.own (.l (es'.map (entC t)))), some (.own (.l (iL (cI es'.flatten)))), r4, r5, r6, r7] := by
  have hp := h.pos
  have hl := h.len
  have ni := gNotIn_l (a : Int) (cI es.flatten)
  by_cases hin : a ∈ es.flatten
  · refine ⟨es, s4, s5, s6, s7, ⟨hcs.all, hcs.nd, hcs.pre, fun j hj => ?_, hcs.beg, .old hcs.rr hin⟩, ?_⟩
    · by_cases e : j = a
      · subst e; exact hin
      · exact hcs.dn j (by omega)
    · rw [decide_eq_true (cI_mem.mpr hin)] at ni
      generalize cI es.flatten = K at *
      simp [ni]
  · rw [decide_eq_false (fun z => hin (cI_mem.mp z))] at ni
    have w0 : Wk t a es.flatten [] a := ⟨⟨fun j hj => by simp at hj, fun k x y h1 => by simp at h1⟩, by simp, fun j hj => by simp at hj, ha, fun _ => rfl, fun b hb => by simp at hb, fun b hb => by simp at hb⟩
    obtain ⟨c, here', us, e2, w, hin', hu⟩ := lcy_while h hcs hin (s1 := some (.imm (.int (a : Int)))) (s2 := some (.own (.l (es.map (entC t))))) (s3 := some (.own (.l (iL (cI es.flatten))))) t.length [] a (t.length + 2) [] w0 (by simp) (by omega) rfl
    have c0 : c ≠ [] := by intro z; subst z; simp at hin'
    have hcs' := (cys_turn h hcs w (List.mem_append_right _ hin')).2 c0
    have em : True := trivial
    have hc : Cyc t c := hcs'.all c (by simp)
    have cl := cyc_le hc
    have fl := hcs.len
    have esl : es.length ≤ 2520 := by
      have h1 := hcs.len
      have : ∀ l : List (List Nat), (∀ c ∈ l, 0 < c.length) → l.length ≤ l.flatten.length := by
        intro l
        induction l with
        | nil => intro _; simp
        | cons c l ih =>
          intro hc
          have h1 := ih (fun d hd => hc d (by simp [hd]))
          have h2 := hc c (by simp)
          simp at h1 ⊢
          omega
      have := this es fun c hc => (hcs.all c hc).ne
      omega
    refine ⟨es ++ [c], some (.imm (.lst (iL (cI c)))), some (.imm (.lst (iL us))), some (.imm (.int (here' : Int))), some (.imm (.int (tot t c))), hcs', ?_⟩
    have mu : muN 0 [some (.imm (.lst (iL t))), some (.imm (.int (a : Int))), some (.own (.l (es.map (entC t)))), some (.own (.l (iL (cI es.flatten)))), some (.own (.l (iL (cI [])))), some (.own (.l (iL []))), some (.imm (.int (a : Int))), some (.imm (.int (tot t [])))] = t.length + 2 := by simp [muN]
    have W : g__law_cycles_2_1a_2 [some (.imm (.lst (iL t))), some (.imm (.int (a : Int))), some (.own (.l (es.map (entC t)))), some (.own (.l (iL (cI es.flatten)))), some (.own (.l (iL (cI [])))), some (.own (.l (iL []))), some (.imm (.int (a : Int))), some (.imm (.int (tot t [])))] = .nx [some (.imm (.lst (iL t))), some (.imm (.int (a : Int))), some (.own (.l (es.map (entC t)))), some (.own (.l (iL (cI es.flatten)))), some (.own (.l (iL (cI c)))), some (.own (.l (iL us))), some (.imm (.int (here' : Int))), some (.imm (.int (tot t c)))] := by
      show whileL _ _ (muN 0 _) _ = _
      rw [mu]
      exact e2
    have S1 : g__law_cycles_2_1a_1 [some (.imm (.lst (iL t))), some (.imm (.int (a : Int))), some (.own (.l (es.map (entC t)))), some (.own (.l (iL (cI es.flatten)))), s4, s5, s6, s7] = .nx [some (.imm (.lst (iL t))), some (.imm (.int (a : Int))), some (.own (.l (es.map (entC t)))), some (.own (.l (iL (cI es.flatten)))), some (.own (.l (iL (cI [])))), some (.own (.l (iL []))), some (.imm (.int (a : Int))), some (.imm (.int (tot t [])))] := by
      simp [sPar4E, tot, cI, iL]
    have ga : gAdd (.lst (iL (cI es.flatten))) (.lst (iL (cI c))) = some (.own (.l (iL (cI es.flatten ++ cI c)))) := gCat_ints _ _ (by rw [show ∀ l : List Nat, (cI l).length = l.length from fun l => by simp [cI], show ∀ l : List Nat, (cI l).length = l.length from fun l => by simp [cI]]; omega)
    have ap : mAppend (es.map (entC t)) [.tup [.ktp (cI c), .lst (iL us), .int (drf t c)]] = some (.non, (es ++ [c]).map (entC t)) := by
      have : (es.map (entC t)).length < 16777216 := by simp; omega
      simp only [mAppend, this, if_true, List.map_append]; rw [hu]; rfl
    have gd : gFdiv (.int (tot t c)) (.int (t.length : Int)) = some (.imm (.int (drf t c))) := by
      rw [gFdiv_i (by omega) (by omega)]
      unfold drf
      rw [sumK_all]; rfl
    have gt : intsK (iL (cI c)) = some (cI c) := intsK_l _
    have ef : cI (es ++ [c]).flatten = cI es.flatten ++ cI c := by simp [cI]
    rw [ef]
    generalize cI es.flatten = K at *
    have T : fTst (fBin gNotIn (vI 1) (vP 3)) [some (.imm (.lst (iL t))), some (.imm (.int (a : Int))), some (.own (.l (es.map (entC t)))), some (.own (.l (iL K))), s4, s5, s6, s7] = .ok true [some (.imm (.lst (iL t))), some (.imm (.int (a : Int))), some (.own (.l (es.map (entC t)))), some (.own (.l (iL K))), s4, s5, s6, s7] := by simp [ni]
    show sIf (fTst (fBin gNotIn (vI 1) (vP 3))) (sSeq g__law_cycles_2_1a_1 (sSeq g__law_cycles_2_1a_2 (sSeq g__law_cycles_2_1a_3 g__law_cycles_2_1a_4))) sNil _ = _
    rw [ap_sIf, T, Res.bindS_ok]
    simp only [if_true]
    rw [ap_sSeq, S1, SR.bind_nx, ap_sSeq, W, SR.bind_nx]
    clear W S1 e2
    generalize iL (cI c) = RW at *
    generalize (es ++ [c]).map (entC t) = ES' at *
    generalize es.map (entC t) = ES at *
    generalize tot t c = TT at *
    generalize drf t c = DR at *
    generalize iL us = US at *
    simp [ga, ap, gd, gt, fTupK, OB.toD]
theorem law_cycles_ok {t : List Int} (h : Good t) : ∃ es : List (List Nat), Cys t t.length es ∧ m__law_cycles none [.lst (iL t)] = .ok (.own (.l (es.map (entC t)))) none := by
  have hl := h.len
  have loop : ∀ (k a : Nat) (es : List (List Nat)) (s1 s4 s5 s6 s7 : Option TS.R), a + k = t.length → Cys t a es → ∃ (es' : List (List Nat)) (r1 r4 r5 r6 r7 : Option TS.R), Cys t t.length es' ∧ forL (tName 1) g__law_cycles_2B (iL (nats a k)) [some (.imm (.lst (iL t))), s1, some (.own (.l (es.map (entC t)))), some (.own (.l (iL (cI es.flatten)))), s4, s5, s6, s7] =
      .nx [some (.imm (.lst (iL t))), r1, some (.own (.l (es'.map (entC t)))), some (.own (.l (iL (cI es'.flatten)))), r4, r5, r6, r7] := by
    intro k
    induction k with
    | zero =>
      intro a es s1 s4 s5 s6 s7 ha hc
      have : a = t.length := by omega
      subst this
      exact ⟨es, s1, s4, s5, s6, s7, hc, by simp [nats, forL, iL]⟩
    | succ k ih =>
      intro a es s1 s4 s5 s6 s7 ha hc
      obtain ⟨es1, r4, r5, r6, r7, hc1, e1⟩ := lcys_turn h (a := a) (by omega) hc s4 s5 s6 s7
      obtain ⟨es2, q1, q4, q5, q6, q7, hc2, e2⟩ := ih (a + 1) es1 (some (.imm (.int (a : Int)))) r4 r5 r6 r7 (by omega) hc1
      refine ⟨es2, q1, q4, q5, q6, q7, hc2, ?_⟩
      rw [← e2, nats_succ]
      simp only [forL, ap_tNameI, SR.bind_nx, List.set_cons_succ, List.set_cons_zero]
      rw [e1]
  obtain ⟨es, r1, r4, r5, r6, r7, hc, e⟩ := loop t.length 0 [] none none none none none (by omega) ⟨fun c hc => by simp at hc, by simp, fun j hj => by simp at hj, fun j hj => by omega, fun c hc => by simp at hc, .nil⟩
  refine ⟨es, hc, ?_⟩
  have it : itRg1 (frz (fCal gLen (aOne (vP 0)))) [some (.imm (.lst (iL t))), none, some (.own (.l [])), some (.own (.l [])), none, none, none, none] = .ok (iL (nats 0 t.length)) [some (.imm (.lst (iL t))), none, some (.own (.l [])), some (.own (.l [])), none, none, none, none] := itRg1_ok (by omega) (by simp)
  have e' : forL (tName 1) g__law_cycles_2B (iL (nats 0 t.length)) [some (.imm (.lst (iL t))), none, some (.own (.l [])), some (.own (.l [])), none, none, none, none] = _ := e
  generalize cI es.flatten = K at *
  generalize es.map (entC t) = ES at *
  (unfold m__law_cycles g__law_cycles; unfold mir; rw [if_pos (by simp [ioN])]; simp only [ini, ioS, ioN, List.replicate, List.map_cons, List.map_nil, List.length_cons, List.length_nil, List.nil_append, List.cons_append, Nat.zero_add, Nat.reduceAdd, Nat.reduceSub])
  (rw [ap_sSeq]; (conv in (SR.bind _ _) => (arg 1; simp [])); (try rw [SR.bind_nx]))
  rw [ap_sSeq, show g__law_cycles_2 _ = _ from for_st it e', SR.bind_nx]
  simp [outR, ioOut]
end
end K21

namespace K21
open PySem L2 TS
noncomputable section
-- needs: plan
def numT (i : Int) : Str := (PyData.int i).shown
theorem fine_int {i : Int} (h : i.natAbs < 2 ^ 255) : fine (.int i) := by unfold fine; exact h
theorem num_repr {i : Int} (h : i.natAbs < 2 ^ 255) : gStr [.int i] = some (.imm (.str (numT i))) := by
  show gRepr [.int i] = _
  exact repr_fine (p := .int i) (by simp [toP]) (fine_int h) (by simp [PyData.depth]) (by simp [PyData.bulk])
theorem num_len {i : Int} (h : i.natAbs < 2 ^ 255) : (numT i).length ≤ 1000 := by
  have := PyData.shown_le_bulk 80 (by decide) (.int i) (fine_show _ (fine_int h)).2.2
  simp only [PyData.bulk] at this
  unfold numT
  omega
def innerT (xs : List Int) : Str := Txt.join "," (xs.map numT)
def TT (xs : List Int) : Str := "[" ++ innerT xs ++ "]"
end
end K21

namespace K21
open PySem L2 TS
noncomputable section
-- needs: k21a shown
set_option exponentiation.threshold 200000
theorem gIn_k (x : Int) (xs : List Int) : gIn (.int x) (.ktp xs) = some (.imm (.bl (decide (x ∈ xs)))) := by
  have f : (xs.map D.int).all flatD = true := by
    rw [List.all_eq_true]
    intro d hd
    obtain ⟨i, _, rfl⟩ := List.mem_map.mp hd
    rfl
  have e : inD (.int x) (xs.map D.int) = decide (x ∈ xs) := by
    induction xs with
    | nil => rfl
    | cons y ys ih =>
      have f' : (ys.map D.int).all flatD = true := by
        rw [List.map_cons, List.all_cons, Bool.and_eq_true] at f
        exact f.2
      have ih := ih f'
      unfold inD at ih ⊢
      rw [List.map_cons, List.any_cons, ih]
      show ((y == x) || decide (x ∈ ys)) = _
      by_cases z : y = x
      · subst z; simp
      · have : (y == x) = false := by simpa using z
        rw [this, Bool.false_or]
        have z' : x ≠ y := fun e => z e.symm
        simp [z']
  show (if flatD (.int x) && (xs.map D.int).all flatD then some (R.imm (.bl (inD (.int x) (xs.map D.int)))) else none) = _
  rw [f, e]; rfl
theorem cI_len (l : List Nat) : (cI l).length = l.length := by simp [cI]
theorem cI_idx {c : List Nat} (nd : c.Nodup) {i r : Nat} (h : c[i]? = some r) : (cI c).idxOf (r : Int) = i := by
  have h1 : (cI c)[i]? = some (r : Int) := by unfold cI; rw [List.getElem?_map, h]; rfl
  obtain ⟨hl, e⟩ := List.getElem?_eq_some_iff.mp h1
  have nd2 : (cI c).Nodup := by
    unfold cI
    exact List.Pairwise.map _ (fun a b h e => h (by omega)) nd
  rw [← e]
  exact nd2.idxOf_getElem i hl
theorem ix_k0 {c : List Nat} (h : 0 < c.length) : gIx (.ktp (cI c)) (.int 0) = some (.imm (.int (c.getD 0 0 : Nat))) := by
  have := gIx_ints (xs := cI c) (n := 0) (by rw [cI_len]; exact h)
  have e : (cI c)[0]'(by rw [cI_len]; exact h) = ((c.getD 0 0 : Nat) : Int) := by
    have h1 : (cI c)[0]? = some ((c.getD 0 0 : Nat) : Int) := by
      unfold cI
      rw [List.getElem?_map, List.getD_eq_getElem?_getD, List.getElem?_eq_getElem h]; rfl
    exact (List.getElem?_eq_some_iff.mp h1).2
  rw [e] at this
  exact this
theorem len_k (c : List Nat) : gLen [.ktp (cI c)] = some (.imm (.int (c.length : Int))) := by
  have : gLen [.ktp (cI c)] = some (.imm (.int ((cI c).length : Int))) := rfl
  rw [this, cI_len]
theorem tot_take {s : List Int} {c : List Nat} {k : Nat} (h : k ≤ c.length) : tot s (c.take k) = sumK s c k := (sumK_take k h).symm
theorem ix_U {s : List Int} {c : List Nat} {k : Nat} (h : k < c.length) : gIx (.lst (iL (sumsU s c))) (.int (k : Int)) = some (.imm (.int (sumK s c k))) := by
  rw [gIx_ints (by rw [sumsU_len]; exact h)]
  congr 3
  unfold sumsU
  rw [List.getElem_map, List.getElem_range]
  exact tot_take (by omega)
section
variable {s : List Int} (h : Good s) (hb : ∀ x, -(2 ^ 200 : Int) < act s x ∧ act s x < 2 ^ 200)
include h hb
theorem adr_hit {c : List Nat} (hc : Cyc s c) {x : Int} (hx : x.natAbs < 2 ^ 40010) {i : Nat} (hi : c[i]? = some (x % s.length).toNat) (n : Nat) (ES : D) (a7 a8 a9 : Option TS.R) :
    ∃ b j δ, pos s c b j = x ∧ (drf s c = 0 → 0 ≤ j ∧ j < c.length) ∧ (drf s c ≠ 0 → 0 ≤ b ∧ b < ((drf s c).natAbs : Int)) ∧
      g__law_address_1B [some (.imm (.lst (iL s))), some (.imm ES), some (.imm (.int x)), some (.imm (.int (n : Int))), some (.imm (.ktp (cI c))), some (.imm (.lst (iL (sumsU s c)))), some (.imm (.int (drf s c))), a7, a8, a9] = .rt (.imm (adT s n c b j)) δ := by
  have hp := h.pos
  have hl := h.len
  have hne := hc.ne
  have hcl := cyc_le hc
  obtain ⟨hil, _⟩ := List.getElem?_eq_some_iff.mp hi
  have x0 := Int.emod_nonneg x (show (s.length : Int) ≠ 0 by omega)
  have xr : (((x % s.length).toNat : Nat) : Int) = x % s.length := Int.toNat_of_nonneg x0
  have gm : gMod (.int x) (.int (s.length : Int)) = some (.imm (.int (x % s.length))) := gMod_i (by omega)
  have gi := gIn_k (x % s.length) (cI c)
  have hm : x % s.length ∈ cI c := by rw [← xr]; exact cI_mem.mpr (List.mem_of_getElem? hi)
  rw [decide_eq_true hm] at gi
  have id := cI_idx hc.nd hi
  rw [xr] at id
  have k0 := ix_k0 (c := c) hne
  have ku := ix_U (s := s) (c := c) hil
  have ls : gLen [.lst (iL s)] = some (.imm (.int (s.length : Int))) := by rw [gLen_l, iL_len]
  have fd : gFdiv (.int (x - (c.getD 0 0 : Nat) - sumK s c i)) (.int (s.length : Int)) = some (.imm (.int ((x - (c.getD 0 0 : Nat) - sumK s c i) / s.length))) := gFdiv_i (by omega) (by omega)
  have be := block_eq h hc hi
  generalize hB : (x - (c.getD 0 0 : Nat) - sumK s c i) / s.length = B at *
  have Bb := addr_bd h hb hc (Nat.le_of_lt hil) hx be
  have db := (drf_bd h hb hc).1
  have ei : ((i : Int) % c.length).toNat = i := by rw [Int.emod_eq_of_lt (by omega) (by omega)]; omega
  by_cases hd : drf s c = 0
  · refine ⟨B, (i : Int), [some (.imm (.lst (iL s))), some (.imm ES), some (.imm (.int x)), some (.imm (.int (n : Int))), some (.imm (.ktp (cI c))), some (.imm (.lst (iL (sumsU s c)))), some (.imm (.int 0)), some (.imm (.int (i : Int))), some (.imm (.int B)), a9], ?_, fun _ => by omega, fun z => absurd hd z, ?_⟩
    · rw [pos_form h hc, ei, hd, Int.zero_mul, Int.add_zero, be]; omega
    · unfold adT
      rw [show kd s c = "round" from if_pos hd, hd]
      generalize iL s = S at *
      generalize iL (sumsU s c) = U at *
      generalize cI c = C at *
      generalize (c.getD 0 0 : Nat) = c0 at *
      simp [ls, gm, gi, fIndexK, hm, id, k0, ku, fd, -gIx_l]
  · have dpos : 0 < ((drf s c).natAbs : Int) := by omega
    have ga : gAbs [.int (drf s c)] = some (.imm (.int ((drf s c).natAbs : Int))) := by
      rw [gAbs_i]
      congr 3
      split <;> omega
    have gm2 : gMod (.int B) (.int ((drf s c).natAbs : Int)) = some (.imm (.int (B % ((drf s c).natAbs : Int)))) := gMod_i dpos
    have l0 := Int.emod_nonneg B (show ((drf s c).natAbs : Int) ≠ 0 by omega)
    have l1 := Int.emod_lt_of_pos B dpos
    obtain ⟨q, hq⟩ : ∃ q, B - B % ((drf s c).natAbs : Int) = drf s c * q := by
      have : ((drf s c).natAbs : Int) ∣ B - B % ((drf s c).natAbs : Int) := Int.dvd_self_sub_emod
      exact Int.natAbs_dvd.mp this
    have fq : gFdiv (.int (B - B % ((drf s c).natAbs : Int))) (.int (drf s c)) = some (.imm (.int q)) := by
      rw [hq]
      exact gFdiv_ex hd (by omega)
    have qb : q.natAbs < 2 ^ 41000 := by
      have e1 : (drf s c * q).natAbs < 2 ^ 40016 := by
        rw [← hq]
        have : (2 : Nat) ^ 40016 = 2 ^ 40015 * 2 := Nat.pow_succ _ _
        have p2 : (2 : Nat) ^ 214 < 2 ^ 40015 := Nat.pow_lt_pow_right (by decide) (by decide)
        omega
      rw [Int.natAbs_mul] at e1
      have e2 : 1 * q.natAbs ≤ (drf s c).natAbs * q.natAbs := Nat.mul_le_mul_right _ (by omega)
      have p3 : (2 : Nat) ^ 40016 < 2 ^ 41000 := Nat.pow_lt_pow_right (by decide) (by decide)
      omega
    have mm : gMul (.int (c.length : Int)) (.int q) = some (.imm (.int (c.length * q))) := gMul_w (by
      have p3 : (2 : Nat) ^ 13 < 2 ^ 41000 := Nat.pow_lt_pow_right (by decide) (by decide)
      omega) qb
    have lk := len_k c
    refine ⟨B % ((drf s c).natAbs : Int), (i : Int) + c.length * q, [some (.imm (.lst (iL s))), some (.imm ES), some (.imm (.int x)), some (.imm (.int (n : Int))), some (.imm (.ktp (cI c))), some (.imm (.lst (iL (sumsU s c)))), some (.imm (.int (drf s c))), some (.imm (.int (i : Int))), some (.imm (.int B)), some (.imm (.int (B % ((drf s c).natAbs : Int))))], ?_, fun z => absurd z hd, fun _ => ⟨l0, l1⟩, ?_⟩
    · have r1 : ((i : Int) + c.length * q) % c.length = i := by rw [Int.add_mul_emod_self_left, Int.emod_eq_of_lt (by omega) (by omega)]
      have r2 : ((i : Int) + c.length * q) / c.length = q := by rw [Int.add_mul_ediv_left _ _ (by omega), Int.ediv_eq_zero_of_lt (by omega) (by omega)]; omega
      rw [pos_form h hc, r1, r2, Int.toNat_natCast, ← hq, show B % ((drf s c).natAbs : Int) + (B - B % ((drf s c).natAbs : Int)) = B by omega, be]
      omega
    · unfold adT
      rw [show kd s c = "line" from if_neg hd]
      generalize B % ((drf s c).natAbs : Int) = LN at *
      generalize drf s c = DR at *
      generalize iL s = S at *
      generalize iL (sumsU s c) = U at *
      generalize hC : cI c = C at *
      generalize (c.getD 0 0 : Nat) = c0 at *
      generalize (c.length : Int) * q = CQ at *
      simp [ls, gm, gi, fIndexK, hm, id, k0, ku, fd, hd, ga, gm2, fq, mm, lk, -gIx_l, -gAbs_i]
omit hb in
theorem adr_miss {c : List Nat} {x : Int} (hi : (x % s.length).toNat ∉ c) (n : Nat) (ES : D) (U DR : D) (a7 a8 a9 : Option TS.R) :
    g__law_address_1B [some (.imm (.lst (iL s))), some (.imm ES), some (.imm (.int x)), some (.imm (.int (n : Int))), some (.imm (.ktp (cI c))), some (.imm U), some (.imm DR), a7, a8, a9] = .nx [some (.imm (.lst (iL s))), some (.imm ES), some (.imm (.int x)), some (.imm (.int (n : Int))), some (.imm (.ktp (cI c))), some (.imm U), some (.imm DR), a7, a8, a9] := by
  have hp := h.pos
  have x0 := Int.emod_nonneg x (show (s.length : Int) ≠ 0 by omega)
  have xr : (((x % s.length).toNat : Nat) : Int) = x % s.length := Int.toNat_of_nonneg x0
  have gm : gMod (.int x) (.int (s.length : Int)) = some (.imm (.int (x % s.length))) := gMod_i (by omega)
  have gi := gIn_k (x % s.length) (cI c)
  have hm : ¬ x % s.length ∈ cI c := by rw [← xr]; exact fun z => hi (cI_mem.mp z)
  rw [decide_eq_false hm] at gi
  have ls : gLen [.lst (iL s)] = some (.imm (.int (s.length : Int))) := by rw [gLen_l, iL_len]
  generalize iL s = S at *
  generalize cI c = C at *
  simp [ls, gm, gi]
theorem adr_loop {x : Int} (hx : x.natAbs < 2 ^ 40010) (ES : D) : ∀ (post : List (List Nat)) (i : Nat) (a3 a4 a5 a6 a7 a8 a9 : Option TS.R), (∀ c ∈ post, Cyc s c) → (∃ c ∈ post, (x % s.length).toNat ∈ c) →
    ∃ n c b j δ, post[n]? = some c ∧ pos s c b j = x ∧ (drf s c = 0 → 0 ≤ j ∧ j < c.length) ∧ (drf s c ≠ 0 → 0 ≤ b ∧ b < ((drf s c).natAbs : Int)) ∧
      forL (tTup 2 (tsCons (tName 3) (tsCons (tTup 3 (tsCons (tName 4) (tsCons (tName 5) (tsCons (tName 6) tsNil)))) tsNil))) g__law_address_1B (enumD i (post.map (entC s))) [some (.imm (.lst (iL s))), some (.imm ES), some (.imm (.int x)), a3, a4, a5, a6, a7, a8, a9] = .rt (.imm (adT s (i + n) c b j)) δ
  | [], _, _, _, _, _, _, _, _, _, ⟨c, hc, _⟩ => by simp at hc
  | c :: post, i, a3, a4, a5, a6, a7, a8, a9, hall, hex => by
    rw [List.map_cons, enumD]
    have tg : (tTup 2 (tsCons (tName 3) (tsCons (tTup 3 (tsCons (tName 4) (tsCons (tName 5) (tsCons (tName 6) tsNil)))) tsNil))) (.imm (.tup [.int (i : Int), entC s c])) [some (.imm (.lst (iL s))), some (.imm ES), some (.imm (.int x)), a3, a4, a5, a6, a7, a8, a9] = .nx [some (.imm (.lst (iL s))), some (.imm ES), some (.imm (.int x)), some (.imm (.int (i : Int))), some (.imm (.ktp (cI c))), some (.imm (.lst (iL (sumsU s c)))), some (.imm (.int (drf s c))), a7, a8, a9] := by
      unfold entC
      generalize cI c = C
      generalize iL (sumsU s c) = U
      generalize iL s = S
      generalize drf s c = DR
      simp
    by_cases hm : (x % s.length).toNat ∈ c
    · obtain ⟨k, hk, ek⟩ := List.getElem_of_mem hm
      have hk2 : c[k]? = some (x % s.length).toNat := by rw [List.getElem?_eq_getElem hk, ek]
      obtain ⟨b, j, δ, f1, f2, f3, e⟩ := adr_hit h hb (hall c (by simp)) hx hk2 i ES a7 a8 a9
      refine ⟨0, c, b, j, δ, by simp, f1, f2, f3, ?_⟩
      rw [forL, tg]
      show (match g__law_address_1B _ with | .nx δ' => _ | .ct δ' => _ | .bk δ' => _ | r => r) = _
      rw [e]; rfl
    · have hex2 : ∃ d ∈ post, (x % s.length).toNat ∈ d := by
        obtain ⟨d, hd, hr⟩ := hex
        rcases List.mem_cons.mp hd with rfl | hd
        · exact absurd hr hm
        · exact ⟨d, hd, hr⟩
      have e := adr_miss h (c := c) (x := x) hm i ES (.lst (iL (sumsU s c))) (.int (drf s c)) a7 a8 a9
      obtain ⟨n, d, b, j, δ, g1, f1, f2, f3, e2⟩ := adr_loop hx ES post (i + 1) (some (.imm (.int (i : Int)))) (some (.imm (.ktp (cI c)))) (some (.imm (.lst (iL (sumsU s c))))) (some (.imm (.int (drf s c)))) a7 a8 a9 (fun d hd => hall d (by simp [hd])) hex2
      refine ⟨n + 1, d, b, j, δ, by simpa using g1, f1, f2, f3, ?_⟩
      rw [forL, tg]
      show (match g__law_address_1B _ with | .nx δ' => _ | .ct δ' => _ | .bk δ' => _ | r => r) = _
      rw [e]
      show forL _ _ _ _ = _
      rw [e2, show i + 1 + n = i + (n + 1) by omega]
variable {cs : List (List Nat)} (hcs : Cys s s.length cs)
include hcs
theorem law_address_ok {x : Int} (hx : x.natAbs < 2 ^ 40010) : ∃ n c b j, IsAd s cs x n c b j ∧ m__law_address none [.lst (iL s), .lst (cs.map (entC s)), .int x] = .ok (.imm (adT s n c b j)) none := by
  have hp := h.pos
  have x0 := Int.emod_nonneg x (show (s.length : Int) ≠ 0 by omega)
  have x1 := Int.emod_lt_of_pos x (show (0 : Int) < s.length by omega)
  have hm := hcs.dn (x % s.length).toNat (by omega)
  obtain ⟨c0, hc0, hr⟩ := List.mem_flatten.mp hm
  obtain ⟨n, c, b, j, δ, g1, f1, f2, f3, e⟩ := adr_loop h hb hx (.lst (cs.map (entC s))) cs 0 none none none none none none none hcs.all ⟨c0, hc0, hr⟩
  rw [Nat.zero_add] at e
  refine ⟨n, c, b, j, ⟨g1, f1, f2, f3⟩, ?_⟩
  have it : itEnum (vI 1) [some (.imm (.lst (iL s))), some (.imm (.lst (cs.map (entC s)))), some (.imm (.int x)), none, none, none, none, none, none, none] = .ok (enumD 0 (cs.map (entC s))) [some (.imm (.lst (iL s))), some (.imm (.lst (cs.map (entC s)))), some (.imm (.int x)), none, none, none, none, none, none, none] := by
    generalize cs.map (entC s) = ES
    generalize iL s = S
    simp
  have M : m__law_address none [.lst (iL s), .lst (cs.map (entC s)), .int x] = outR none (g__law_address [some (.imm (.lst (iL s))), some (.imm (.lst (cs.map (entC s)))), some (.imm (.int x)), none, none, none, none, none, none, none]) := rfl
  rw [M, show g__law_address = sSeq (sFor (itEnum (vI 1)) (tTup 2 (tsCons (tName 3) (tsCons (tTup 3 (tsCons (tName 4) (tsCons (tName 5) (tsCons (tName 6) tsNil)))) tsNil))) g__law_address_1B) g__law_address_2 from rfl, ap_sSeq, ap_sFor, it, Res.bindS_ok, e]
  rfl
theorem law_place_at_ok {n : Nat} {c : List Nat} (hn : cs[n]? = some c) {b j : Int} (hbb : b.natAbs < 2 ^ 250) (hj : j.natAbs < 2 ^ 250) : (pos s c b j).natAbs < 2 ^ 500 ∧ m__law_place_at none [.lst (iL s), .lst (cs.map (entC s)), adT s n c b j] = .ok (.imm (.int (pos s c b j))) none := by
  have hp := h.pos
  have hl := h.len
  have hc := hcs.all c (List.mem_of_getElem? hn)
  have hne := hc.ne
  have hcl := cyc_le hc
  have db := (drf_bd h hb hc).1
  have j0 := Int.emod_nonneg j (show (c.length : Int) ≠ 0 by omega)
  have j1 := Int.emod_lt_of_pos j (show (0 : Int) < c.length by omega)
  have je := Int.emod_add_mul_ediv j c.length
  have qb : (j / (c.length : Int)).natAbs < 2 ^ 251 := by
    have e1 : ((c.length : Int) * (j / c.length)).natAbs < 2 ^ 251 := by omega
    rw [Int.natAbs_mul] at e1
    have e2 : 1 * (j / (c.length : Int)).natAbs ≤ (c.length : Int).natAbs * (j / (c.length : Int)).natAbs := Nat.mul_le_mul_right _ (by omega)
    omega
  have m1 : gMul (.int (j / (c.length : Int))) (.int (c.length : Int)) = some (.imm (.int (j / (c.length : Int) * c.length))) := gMul_i (by omega) (by omega)
  have dq : (drf s c * (j / (c.length : Int))).natAbs < 2 ^ 466 := by
    rw [Int.natAbs_mul]
    have e1 := Nat.mul_le_mul (Nat.le_of_lt db) (Nat.le_of_lt qb)
    have e2 : (2 : Nat) ^ 214 * 2 ^ 251 < 2 ^ 466 := by decide
    omega
  have m2 : gMul (.int (drf s c)) (.int (j / (c.length : Int))) = some (.imm (.int (drf s c * (j / c.length)))) := gMul_i (by omega) (by omega)
  have m3 : gMul (.int (s.length : Int)) (.int (b + drf s c * (j / c.length))) = some (.imm (.int (s.length * (b + drf s c * (j / c.length))))) := gMul_w (by
    have p3 : (2 : Nat) ^ 13 < 2 ^ 41000 := Nat.pow_lt_pow_right (by decide) (by decide)
    omega) (by
    have p3 : (2 : Nat) ^ 467 < 2 ^ 41000 := Nat.pow_lt_pow_right (by decide) (by decide)
    omega)
  have ml := mod_lt hne j
  have ku := ix_U (s := s) (c := c) ml
  rw [Int.toNat_of_nonneg j0] at ku
  have ej : j - j / (c.length : Int) * c.length = j % c.length := by rw [Int.mul_comm]; omega
  have f1 : gFdiv (.int j) (.int (c.length : Int)) = some (.imm (.int (j / c.length))) := gFdiv_i (by omega) (by omega)
  have k0 := ix_k0 (c := c) hne
  have lk := len_k c
  have ls : gLen [.lst (iL s)] = some (.imm (.int (s.length : Int))) := by rw [gLen_l, iL_len]
  have ic : gIx (.lst (cs.map (entC s))) (.int (n : Int)) = some (.imm (.tup [.ktp (cI c), .lst (iL (sumsU s c)), .int (drf s c)])) := by
    have e : (cs.map (entC s))[n]? = some (entC s c) := by rw [List.getElem?_map, hn]; rfl
    obtain ⟨hl, e2⟩ := List.getElem?_eq_some_iff.mp e
    rw [gIx_l, atI_in hl, e2]; rfl
  have pf := pos_form h hc b j
  have c0b : c.getD 0 0 < s.length := hc.path.lt _ (getD_mem hne)
  have kb := sumK_bd hb (c := c) (j % c.length).toNat
  constructor
  · rw [pf]
    have t1 : ((s.length : Int) * (b + drf s c * (j / c.length))).natAbs < 2 ^ 480 := by
      rw [Int.natAbs_mul]
      have e1 : (b + drf s c * (j / c.length)).natAbs ≤ 2 ^ 467 := by omega
      have e2 := Nat.mul_le_mul (show (s.length : Int).natAbs ≤ 2520 by omega) e1
      have e3 : 2520 * (2 : Nat) ^ 467 < 2 ^ 480 := by decide
      omega
    have t2 : (((j % (c.length : Int)).toNat : Nat) : Int) * 2 ^ 200 ≤ 2520 * 2 ^ 200 := Int.mul_le_mul_of_nonneg_right (by omega) (by decide)
    omega
  · rw [pf]
    unfold adT
    generalize sumK s c (j % c.length).toNat = SK at *
    generalize drf s c * (j / (c.length : Int)) = DQ at *
    generalize (s.length : Int) * (b + DQ) = SB at *
    generalize hES : cs.map (entC s) = ES at *
    generalize iL s = S at *
    generalize iL (sumsU s c) = U at *
    generalize cI c = C at *
    generalize (c.getD 0 0 : Nat) = c0 at *
    generalize drf s c = DR at *
    generalize kd s c = KD at *
    (unfold m__law_place_at g__law_place_at; unfold mir; rw [if_pos (by simp [ioN])]; simp only [ini, ioS, ioN, List.replicate, List.map_cons, List.map_nil, List.length_cons, List.length_nil, List.nil_append, List.cons_append, Nat.zero_add, Nat.reduceAdd, Nat.reduceSub])
    (rw [ap_sSeq]; (conv in (SR.bind _ _) => (arg 1; simp [])); (try rw [SR.bind_nx]))
    (rw [ap_sSeq]; (conv in (SR.bind _ _) => (arg 1; simp [ic, -gIx_l])); (try rw [SR.bind_nx]))
    (rw [ap_sSeq]; (conv in (SR.bind _ _) => (arg 1; simp [lk, f1])); (try rw [SR.bind_nx]))
    (rw [ap_sSeq]; (conv in (SR.bind _ _) => (arg 1; simp [k0, lk, m1, ej, ku, -gIx_l])); (try rw [SR.bind_nx]))
    simp [outR, ioOut, ls, m2, m3]
end
end
end K21

namespace K21
open PySem L2 TS
noncomputable section
-- needs: draw
theorem pot_ok (ns : List Int) (k : Nat) (hk : k < 100) : ∃ o, m__law_pot none [.scr (ns.map D.int), .int (k : Int)] = .ok (.own o) none ∧ Pot o := by
  have m23 : gMul (.int 37) (.int (k : Int)) = some (.imm (.int (37 * (k : Int)))) := gMul_i (by decide) (by omega)
  have m79 : gMul (.int 51203) (.int (k : Int)) = some (.imm (.int (51203 * (k : Int)))) := gMul_i (by decide) (by omega)
  have e3 : ∀ i : Int, gMod (.int i) (.int 2147483629) = some (.imm (.int (i % 2147483629))) := fun i => gMod_i (by decide)
  have e4 : ∀ i : Int, gMod (.int i) (.int 2147483587) = some (.imm (.int (i % 2147483587))) := fun i => gMod_i (by decide)
  have e5 : ∀ i : Int, gMul (.int (i % 2147483587)) (.int 40009) = some (.imm (.int (i % 2147483587 * 40009))) := fun i => by
    have h1 := Int.emod_nonneg i (show (2147483587 : Int) ≠ 0 by decide)
    have h2 := Int.emod_lt_of_pos i (show (0 : Int) < 2147483587 by decide)
    exact gMul_i (by omega) (by decide)
  have key : ∀ c : Int, Pot (.l [.int (if c - 1000000000000000000 > 0 then c - 1000000000000000000 else 0), .int ((c % 2147483587 * 40009 + 51203 * (k : Int) + 77) % 2147483629 + 1)]) := fun c => by
    refine ⟨_, _, rfl, by split <;> omega, ?_, ?_⟩
    · have := Int.emod_nonneg (c % 2147483587 * 40009 + 51203 * (k : Int) + 77) (show (2147483629 : Int) ≠ 0 by decide); omega
    · have := Int.emod_lt_of_pos (c % 2147483587 * 40009 + 51203 * (k : Int) + 77) (show (0 : Int) < 2147483629 by decide); omega
  by_cases h : k < ns.length
  · have hx : gIx (.scr (ns.map D.int)) (.int (k : Int)) = some (.imm (.int ns[k])) := by
      show (atI (ns.map D.int) (k : Int)).map R.imm = _
      rw [show ns.map D.int = iL ns from rfl, atI_ints, atI_in h]; rfl
    have hl : ((k : Int) < (ns.length : Int)) := by omega
    refine ⟨_, ?_, key (if ns[k] < 0 then -ns[k] else ns[k])⟩
    simp [m__law_pot, mir, ini, ioS, ioN, outR, ioOut, g__law_pot, m23, m79, e3, e4, e5, hx, h, pow_18]
  · refine ⟨_, ?_, key (37 * (k : Int) + 5)⟩
    simp [m__law_pot, mir, ini, ioS, ioN, outR, ioOut, g__law_pot, m23, m79, e3, e4, e5, h, pow_18]
end
end K21

namespace K21
open PySem L2 TS
noncomputable section
-- needs: k21b pot
set_option exponentiation.threshold 200000
theorem it2_kd (s : List Int) (c : List Nat) : It2 0 10 (.str (kd s c)) := by
  unfold kd
  split <;> exact ⟨by decide +kernel, by decide +kernel, by decide +kernel, by decide +kernel, by decide +kernel⟩
def adP (s : List Int) (n : Nat) (c : List Nat) (b j : Int) : PyData := .tuple [.str (kd s c), .int (n : Int), .int b, .int j]
theorem it2_ad {s : List Int} {n : Nat} {c : List Nat} {b j : Int} (hn : n < 2 ^ 100) (hb : b.natAbs < 2 ^ 1900) (hj : j.natAbs < 2 ^ 1900) : It2 1 50 (adP s n c b j) :=
  it2_tuple (b := 10) (fun p hp => by
    simp only [List.mem_cons, List.not_mem_nil, or_false] at hp
    rcases hp with rfl | rfl | rfl | rfl
    · exact it2_kd s c
    · refine It2.mono (it2_int ?_) (Nat.le_refl _) (by decide)
      have p3 : (2 : Nat) ^ 100 < 2 ^ 1900 := Nat.pow_lt_pow_right (by decide) (by decide)
      omega
    · exact (it2_int hb).mono (Nat.le_refl _) (by decide)
    · exact (it2_int hj).mono (Nat.le_refl _) (by decide)) (by simp)
theorem text_l {ds : List D} {ps : List PyData} (e : toPts ds = some ps) (h : ∀ p ∈ ps, It2 1 50 p) (hl : ps.length ≤ 10) : ∃ X, gReprT (.lst ds) = some X ∧ gNe (.str X) (.str X) = some (.imm (.bl false)) := by
  obtain ⟨X, e1, o1⟩ := textT (D0 := .lst ds) (p := .list ps) (d := 2) (b := 510) (by unfold toPt; rw [e]; rfl) (it2_list (d := 1) (b := 50) h (by omega)) (by decide) (by decide)
  exact ⟨X, e1, neT o1⟩
theorem law_place_ok {o : OB} (p : Pot o) : ∃ x o', m__law_place (some o) [] = .ok (.imm (.int x)) (some o') ∧ Pot o' ∧ x.natAbs < 2 ^ 240 := by
  obtain ⟨w, o1, e1, p1, w0, w1⟩ := draw_ok p (m := 4) (by decide) (by decide)
  obtain ⟨a, o2, e2, p2, a0, a1⟩ := draw_ok p1 (m := 81) (by decide) (by decide)
  obtain ⟨b, o3, e3, p3, b0, b1⟩ := draw_ok p2 (m := 2001) (by decide) (by decide)
  obtain ⟨c, o4, e4, p4, c1⟩ := great_ok p3 (g := 3) (by decide)
  obtain ⟨d, o5, e5, p5, d1⟩ := great_ok p4 (g := 10) (by decide)
  have e4 : m__law_great (some o3) [.int 3] = .ok (.imm (.int c)) (some o4) := e4
  have e5 : m__law_great (some o4) [.int 10] = .ok (.imm (.int d)) (some o5) := e5
  have t3 : (10000000 : Int) ^ 3 = 1000000000000000000000 := by decide
  have t10 : (10000000 : Int) ^ 10 = 10000000000000000000000000000000000000000000000000000000000000000000000 := by decide
  have t240 : (2 : Nat) ^ 240 = 1766847064778384329583297500742918515827483896875618958121606201292619776 := by decide
  have hx : ∃ x, gIx (.lst [.int (a - 40), .int (b - 1000), .int c, .int d]) (.int w) = some (.imm (.int x)) ∧ x.natAbs < 2 ^ 240 := by
    have : w = 0 ∨ w = 1 ∨ w = 2 ∨ w = 3 := by omega
    rcases this with rfl | rfl | rfl | rfl
    · exact ⟨_, rfl, by omega⟩
    · exact ⟨_, rfl, by omega⟩
    · exact ⟨_, rfl, by omega⟩
    · exact ⟨_, rfl, by omega⟩
  obtain ⟨x, ex, xb⟩ := hx
  refine ⟨x, o5, ?_, p5, xb⟩
  (unfold m__law_place g__law_place; unfold mir; rw [if_pos (by simp [ioN])]; simp only [ini, ioS, ioN, List.replicate, List.map_cons, List.map_nil, List.length_cons, List.length_nil, List.nil_append, List.cons_append, Nat.zero_add, Nat.reduceAdd, Nat.reduceSub])
  (rw [ap_sSeq]; (conv in (SR.bind _ _) => (arg 1; simp [e1])); (try rw [SR.bind_nx]))
  simp [outR, ioOut, e2, e3, e4, e5, ex, -gIx_l]
theorem below_loop {L : Option TS.R} : ∀ (k i : Nat) (o : OB) (n : Int) (s3 : Option TS.R), Pot o → i + k ≤ 200 → 0 ≤ n → n < 10000000 ^ i →
    ∃ o' n' s3', Pot o' ∧ forL (tName 3) g__law_below_2B (iL (nats i k)) [some (.brw o), L, some (.imm (.int n)), s3] = .nx [some (.brw o'), L, some (.imm (.int n')), s3'] := by
  intro k
  induction k with
  | zero => intro i o n s3 hp _ h0 h1; exact ⟨o, n, s3, hp, by simp [nats, forL, iL]⟩
  | succ k ih =>
    intro i o n s3 hp hi h0 h1
    obtain ⟨r, o1, e1, p1, a1, b1⟩ := draw_ok hp (m := 10000000) (by decide) (by decide)
    have bd : (10000000 : Int) ^ i ≤ 10000000 ^ 200 := p7_le (by omega)
    have b9 : (10000000 : Int) ^ 200 < 2 ^ 41000 := by decide +kernel
    have m := gMul_w (i := n) (j := 10000000) (by omega) (by
      have p3 : (2 : Nat) ^ 30 < 2 ^ 41000 := Nat.pow_lt_pow_right (by decide) (by decide)
      omega)
    have up : n * 10000000 + r < 10000000 ^ (i + 1) := by rw [Int.pow_succ]; omega
    obtain ⟨o', n', s3', p', e2⟩ := ih (i + 1) o1 (n * 10000000 + r) (some (.imm (.int (i : Int)))) p1 (by omega) (by omega) up
    refine ⟨o', n', s3', p', ?_⟩
    rw [← e2, nats_succ]
    simp [forL, pow_7, e1, m]
theorem law_below_ok {o : OB} (p : Pot o) {L : Nat} (h0 : 0 < L) (h1 : L < 2 ^ 250) : ∃ b o', m__law_below (some o) [.int (L : Int)] = .ok (.imm (.int b)) (some o') ∧ Pot o' ∧ 0 ≤ b ∧ b < (L : Int) := by
  have nr := num_repr (i := (L : Int)) (by omega)
  have nl := num_len (i := (L : Int)) (by omega)
  obtain ⟨k, hk⟩ : ∃ k : Nat, (1 : Int) + ((numT (L : Int)).length : Int) / 7 = (k : Int) := ⟨(1 + ((numT (L : Int)).length : Int) / 7).toNat, by omega⟩
  have gs : gLen [.str (numT (L : Int))] = some (.imm (.int ((numT (L : Int)).length : Int))) := by
    have : (numT (L : Int)).length ≤ 16777216 := by omega
    simp [gLen, lenD, this]
  have fd : gFdiv (.int ((numT (L : Int)).length : Int)) (.int 7) = some (.imm (.int (((numT (L : Int)).length : Int) / 7))) := gFdiv_i (by decide) (by decide)
  obtain ⟨o', n, s3, p', e⟩ := below_loop (L := some (.imm (.int (L : Int)))) k 0 o 0 none p (by omega) (by decide) (by decide)
  have gm : gMod (.int n) (.int (L : Int)) = some (.imm (.int (n % L))) := gMod_i (by omega)
  refine ⟨n % L, o', ?_, p', Int.emod_nonneg _ (by omega), Int.emod_lt_of_pos _ (by omega)⟩
  have it : itRg1 (frz (fBin gAdd (kD (.int 1)) (frz (fBin gFdiv (frz (fCal gLen (aOne (frz (fCal gStr (aOne (vP 1))))))) (kD (.int 7)))))) [some (.brw o), some (.imm (.int (L : Int))), some (.imm (.int 0)), none] = .ok (iL (nats 0 k)) [some (.brw o), some (.imm (.int (L : Int))), some (.imm (.int 0)), none] := itRg1_ok (by omega) (by
    generalize numT (L : Int) = NT at *
    simp [nr, gs, fd, hk])
  (unfold m__law_below g__law_below; unfold mir; rw [if_pos (by simp [ioN])]; simp only [ini, ioS, ioN, List.replicate, List.map_cons, List.map_nil, List.length_cons, List.length_nil, List.nil_append, List.cons_append, Nat.zero_add, Nat.reduceAdd, Nat.reduceSub])
  (rw [ap_sSeq]; (conv in (SR.bind _ _) => (arg 1; simp [])); (try rw [SR.bind_nx]))
  rw [ap_sSeq, show g__law_below_2 _ = _ from for_st it e, SR.bind_nx]
  simp [outR, ioOut, gm]
section
variable {s : List Int} (h : Good s) (hb : ∀ x, -(2 ^ 200 : Int) < act s x ∧ act s x < 2 ^ 200) {cs : List (List Nat)} (hcs : Cys s s.length cs) {sk : List Key} {sv : List D} {L : List (List Key × List D)} {R : List (Key × List D)} {ak : List Key} {av : List D} (I : TrI s (zs cs) sk sv L R ak av)
include h hb hcs
theorem cs_len : 0 < cs.length ∧ cs.length ≤ 2520 := by
  have hl := h.len
  have hp := h.pos
  have h1 := hcs.len
  have : ∀ l : List (List Nat), (∀ c ∈ l, 0 < c.length) → l.length ≤ l.flatten.length := by
    intro l
    induction l with
    | nil => intro _; simp
    | cons c l ih =>
      intro hc
      have h1 := ih (fun d hd => hc d (by simp [hd]))
      have h2 := hc c (by simp)
      simp at h1 ⊢
      omega
  have := this cs fun c hc => (hcs.all c hc).ne
  obtain ⟨c, hc, _⟩ := List.mem_flatten.mp (hcs.dn 0 hp)
  exact ⟨List.length_pos_of_mem hc, by omega⟩
theorem ad_bdv {x : Int} {B : Nat} (hx : x.natAbs < 2 ^ B) (hB : 300 ≤ B ∧ B ≤ 600) {n : Nat} {c : List Nat} {b j : Int} (a : IsAd s cs x n c b j) : n < 10000 ∧ b.natAbs < 2 ^ (B + 40) ∧ j.natAbs < 2 ^ (B + 40) := by
  have hc := hcs.all c (List.mem_of_getElem? a.cyc)
  have hne := hc.ne
  have hl := h.len
  have hp := h.pos
  have hcl := cyc_le hc
  have hn : n < cs.length := (List.getElem?_eq_some_iff.mp a.cyc).1
  have cl := (cs_len h hb hcs).2
  have fm := pos_form h hc b j
  rw [a.eq] at fm
  have j0 := Int.emod_nonneg j (show (c.length : Int) ≠ 0 by omega)
  have j1 := Int.emod_lt_of_pos j (show (0 : Int) < c.length by omega)
  have kb := sumK_bd hb (c := c) (j % c.length).toNat
  have t2 : (((j % (c.length : Int)).toNat : Nat) : Int) * 2 ^ 200 ≤ 2520 * 2 ^ 200 := Int.mul_le_mul_of_nonneg_right (by omega) (by decide)
  have c0b : c.getD 0 0 < s.length := hc.path.lt _ (getD_mem hne)
  have p300 : (2 : Nat) ^ 300 ≤ 2 ^ B := Nat.pow_le_pow_right (by decide) hB.1
  have p40 : (2 : Nat) ^ (B + 40) = 2 ^ B * 1099511627776 := by rw [Nat.pow_add]
  generalize hP : (2 : Nat) ^ B = P at *
  have p3 : (2 : Nat) ^ 300 = 2037035976334486086268445688409378161051468393665936250636140449354381299763336706183397376 := by decide
  have p2 : (2 : Int) ^ 200 = 1606938044258990275541962092341162602522202993782792835301376 := by decide
  have ub : (b + drf s c * (j / c.length)).natAbs < 3 * P := by
    have e1 : ((s.length : Int) * (b + drf s c * (j / c.length))).natAbs < 3 * P := by omega
    rw [Int.natAbs_mul] at e1
    have e2 : 1 * (b + drf s c * (j / c.length)).natAbs ≤ (s.length : Int).natAbs * (b + drf s c * (j / c.length)).natAbs := Nat.mul_le_mul_right _ (by omega)
    omega
  have db := (drf_bd h hb hc).1
  have p214 : (2 : Nat) ^ 214 < 2 ^ 300 := Nat.pow_lt_pow_right (by decide) (by decide)
  refine ⟨by omega, ?_⟩
  by_cases hd : drf s c = 0
  · have z := a.rd hd
    rw [hd, Int.zero_mul] at ub
    constructor <;> omega
  · have z := a.ln hd
    have q : (drf s c * (j / c.length)).natAbs < 4 * P := by omega
    rw [Int.natAbs_mul] at q
    have q2 : 1 * (j / (c.length : Int)).natAbs ≤ (drf s c).natAbs * (j / (c.length : Int)).natAbs := Nat.mul_le_mul_right _ (by omega)
    have q3 := Int.emod_add_mul_ediv j c.length
    have q4 : ((c.length : Int) * (j / c.length)).natAbs ≤ 2520 * (4 * P) := by
      rw [Int.natAbs_mul]
      exact Nat.mul_le_mul (by omega) (by omega)
    constructor <;> omega
theorem drawn_address_ok {o : OB} (p : Pot o) : ∃ n c b j o', cs[n]? = some c ∧ IsAd s cs (pos s c b j) n c b j ∧ b.natAbs < 2 ^ 250 ∧ j.natAbs < 2 ^ 250 ∧ m__law_drawn_address (some o) [.lst (cs.map (entC s))] = .ok (.imm (adT s n c b j)) (some o') ∧ Pot o' := by
  obtain ⟨c0, c1⟩ := cs_len h hb hcs
  obtain ⟨n, o1, e1, p1, n0, n1⟩ := draw_ok p (m := (cs.length : Int)) (by omega) (by omega)
  obtain ⟨n, rfl⟩ := Int.eq_ofNat_of_zero_le n0
  have hn : cs[n]? = some (cs[n]'(by omega)) := List.getElem?_eq_getElem (by omega)
  generalize cs[n]'(by omega) = c at hn
  have hc := hcs.all c (List.mem_of_getElem? hn)
  have hne := hc.ne
  have hcl := cyc_le hc
  have hl := h.len
  have db := (drf_bd h hb hc).1
  have ln : gLen [.lst (cs.map (entC s))] = some (.imm (.int (cs.length : Int))) := by rw [gLen_l, List.length_map]
  have ic : gIx (.lst (cs.map (entC s))) (.int (n : Int)) = some (.imm (.tup [.ktp (cI c), .lst (iL (sumsU s c)), .int (drf s c)])) := by
    have e : (cs.map (entC s))[n]? = some (entC s c) := by rw [List.getElem?_map, hn]; rfl
    obtain ⟨hl, e2⟩ := List.getElem?_eq_some_iff.mp e
    rw [gIx_l, atI_in hl, e2]; rfl
  have lk := len_k c
  by_cases hd : drf s c = 0
  · obtain ⟨b, o2, e2, p2, bb⟩ := law_place_ok p1
    obtain ⟨j, o3, e3, p3, j0, j1⟩ := draw_ok p2 (m := (c.length : Int)) (by omega) (by omega)
    have p240 : (2 : Nat) ^ 240 < 2 ^ 250 := by decide
    have p13 : (2 : Nat) ^ 13 < 2 ^ 250 := by decide
    refine ⟨n, c, b, j, o3, hn, ⟨hn, rfl, fun _ => ⟨j0, j1⟩, fun z => absurd hd z⟩, by omega, by omega, ?_, p3⟩
    unfold adT
    rw [show kd s c = "round" from if_pos hd]
    rw [hd] at ic
    generalize hES : cs.map (entC s) = ES at *
    generalize iL (sumsU s c) = U at *
    generalize cI c = C at *
    (unfold m__law_drawn_address g__law_drawn_address; unfold mir; rw [if_pos (by simp [ioN])]; simp only [ini, ioS, ioN, List.replicate, List.map_cons, List.map_nil, List.length_cons, List.length_nil, List.nil_append, List.cons_append, Nat.zero_add, Nat.reduceAdd, Nat.reduceSub])
    (rw [ap_sSeq]; (conv in (SR.bind _ _) => (arg 1; simp [ln, e1])); (try rw [SR.bind_nx]))
    (rw [ap_sSeq]; (conv in (SR.bind _ _) => (arg 1; simp [ic, -gIx_l])); (try rw [SR.bind_nx]))
    simp [e2, lk, e3, outR, ioOut]
  · obtain ⟨b, o2, e2, p2, b0, b1⟩ := law_below_ok p1 (L := (drf s c).natAbs) (by omega) (by
      have p214 : (2 : Nat) ^ 214 < 2 ^ 250 := by decide
      omega)
    obtain ⟨j, o3, e3, p3, jb⟩ := law_place_ok p2
    have p240 : (2 : Nat) ^ 240 < 2 ^ 250 := by decide
    have p214 : (2 : Nat) ^ 214 < 2 ^ 250 := by decide
    have ga : gAbs [.int (drf s c)] = some (.imm (.int ((drf s c).natAbs : Int))) := by
      rw [gAbs_i]
      congr 3
      split <;> omega
    refine ⟨n, c, b, j, o3, hn, ⟨hn, rfl, fun z => absurd z hd, fun _ => ⟨b0, b1⟩⟩, by omega, by omega, ?_, p3⟩
    unfold adT
    rw [show kd s c = "line" from if_neg hd]
    generalize drf s c = DR at *
    generalize hES : cs.map (entC s) = ES at *
    generalize iL (sumsU s c) = U at *
    generalize cI c = C at *
    (unfold m__law_drawn_address g__law_drawn_address; unfold mir; rw [if_pos (by simp [ioN])]; simp only [ini, ioS, ioN, List.replicate, List.map_cons, List.map_nil, List.length_cons, List.length_nil, List.nil_append, List.cons_append, Nat.zero_add, Nat.reduceAdd, Nat.reduceSub])
    (rw [ap_sSeq]; (conv in (SR.bind _ _) => (arg 1; simp [ln, e1])); (try rw [SR.bind_nx]))
    (rw [ap_sSeq]; (conv in (SR.bind _ _) => (arg 1; simp [ic, -gIx_l])); (try rw [SR.bind_nx]))
    simp [hd, ga, e2, e3, outR, ioOut, -gAbs_i]
include I
theorem turn_ok {o : OB} (p : Pot o) {a1 a2 a4 a7 a8 a9 a10 a11 s5 s6 : Option TS.R} (h5 : s5 = some (.own (.l (cs.map (entC s)))) ∨ s5 = some (.imm (.lst (cs.map (entC s))))) (h6 : s6 = some (.own (.o 3 (trF s (zs cs) sk sv L R ak av))) ∨ s6 = some (.imm (trO s cs sk sv L R ak av))) : ∃ o' r7 r8 r9 r10 r11, Pot o' ∧
    g__law_right_5B [some (.brw o), a1, a2, some (.imm (.lst (iL s))), a4, s5, s6, a7, a8, a9, a10, a11] = .nx [some (.brw o'), a1, a2, some (.imm (.lst (iL s))), a4, some (.imm (.lst (cs.map (entC s)))), some (.imm (trO s cs sk sv L R ak av)), r7, r8, r9, r10, r11] := by
  obtain ⟨x, o1, e1, p1, xb⟩ := law_place_ok p
  have p240 : (2 : Nat) ^ 240 < 2 ^ 40010 := Nat.pow_lt_pow_right (by decide) (by decide)
  have p500 : (2 : Nat) ^ 500 < 2 ^ 40010 := Nat.pow_lt_pow_right (by decide) (by decide)
  have p301 : (2 : Nat) ^ 240 < 2 ^ 300 := Nat.pow_lt_pow_right (by decide) (by decide)
  have p340 : (2 : Nat) ^ (300 + 40) < 2 ^ 1900 := Nat.pow_lt_pow_right (by decide) (by decide)
  have p540 : (2 : Nat) ^ (500 + 40) < 2 ^ 1900 := Nat.pow_lt_pow_right (by decide) (by decide)
  have p5 : (2 : Nat) ^ 500 < 2 ^ 1900 := Nat.pow_lt_pow_right (by decide) (by decide)
  have p24 : (2 : Nat) ^ 240 < 2 ^ 1900 := Nat.pow_lt_pow_right (by decide) (by decide)
  have p100 : 10000 < (2 : Nat) ^ 100 := by decide
  obtain ⟨n, c, b, j, ia, e2⟩ := law_address_ok h hb hcs (x := x) (by omega)
  have f1 := address_ok h hb hcs I (x := x) (by omega) ia
  have f2 := placeT_ok h hb hcs (x := x) (sk := sk) (sv := sv) (L := L) (R := R) (ak := ak) (av := av) (by omega) ia
  obtain ⟨q1, q2, q3⟩ := ad_bdv h hb hcs (B := 300) (x := x) (by omega) (by decide) ia
  obtain ⟨X1, g1, g2⟩ := text_l (ds := [adT s n c b j, adT s n c b j, .int x, .int x]) (ps := [adP s n c b j, adP s n c b j, .int x, .int x]) rfl (fun p hp => by
    simp only [List.mem_cons, List.not_mem_nil, or_false] at hp
    have i1 : It2 1 50 (adP s n c b j) := it2_ad (by omega) (by omega) (by omega)
    have i2 : It2 1 50 (.int x) := (it2_int (by omega)).mono (by decide) (by decide)
    rcases hp with rfl | rfl | rfl | rfl
    · exact i1
    · exact i1
    · exact i2
    · exact i2) (by simp)
  obtain ⟨n', c', b', j', o2, hn, ia', bb, jb, e3, p2⟩ := drawn_address_ok h hb hcs p1
  obtain ⟨yb, e4⟩ := law_place_at_ok h hb hcs hn bb jb
  generalize pos s c' b' j' = y at *
  have f3 := address_ok h hb hcs I (x := y) (by omega) ia'
  have f4 := placeT_ok h hb hcs (x := y) (sk := sk) (sv := sv) (L := L) (R := R) (ak := ak) (av := av) (by omega) ia'
  obtain ⟨q4, q5, q6⟩ := ad_bdv h hb hcs (B := 500) (x := y) yb (by decide) ia'
  obtain ⟨X2, g3, g4⟩ := text_l (ds := [.int y, .int y, adT s n' c' b' j']) (ps := [.int y, .int y, adP s n' c' b' j']) rfl (fun p hp => by
    simp only [List.mem_cons, List.not_mem_nil, or_false] at hp
    have i1 : It2 1 50 (adP s n' c' b' j') := it2_ad (by omega) (by omega) (by omega)
    have i2 : It2 1 50 (.int y) := (it2_int (by omega)).mono (by decide) (by decide)
    rcases hp with rfl | rfl | rfl
    · exact i2
    · exact i2
    · exact i1) (by simp)
  refine ⟨o2, some (.imm (.int x)), some (.imm (adT s n c b j)), some (.imm (.lst [.int y, .int y, adT s n' c' b' j'])), some (.imm (adT s n' c' b' j')), some (.imm (.int y)), p2, ?_⟩
  have ta : tab_address 3 = some m_Tracks_address := rfl
  have tp : tab_place 3 = some m_Tracks_place := rfl
  generalize adT s n c b j = A1 at *
  generalize adT s n' c' b' j' = A2 at *
  unfold trO at *
  generalize trF s (zs cs) sk sv L R ak av = TF at *
  generalize cs.map (entC s) = ES at *
  generalize iL s = S at *
  have W1 : g__law_right_5_1 [some (.brw o), a1, a2, some (.imm (.lst S)), a4, s5, s6, a7, a8, a9, a10, a11] = .nx [some (.brw o1), a1, a2, some (.imm (.lst S)), a4, s5, s6, some (.imm (.int x)), a8, a9, a10, a11] := by simp [e1]
  have W2 : g__law_right_5_2 [some (.brw o1), a1, a2, some (.imm (.lst S)), a4, s5, s6, some (.imm (.int x)), a8, a9, a10, a11] = .nx [some (.brw o1), a1, a2, some (.imm (.lst S)), a4, some (.imm (.lst ES)), s6, some (.imm (.int x)), some (.imm A1), a9, a10, a11] := by
    rcases h5 with rfl | rfl <;> simp [e2, OB.toD]
  have W3 : g__law_right_5_3 [some (.brw o1), a1, a2, some (.imm (.lst S)), a4, some (.imm (.lst ES)), s6, some (.imm (.int x)), some (.imm A1), a9, a10, a11] = .nx [some (.brw o1), a1, a2, some (.imm (.lst S)), a4, some (.imm (.lst ES)), some (.imm (.obj 3 TF)), some (.imm (.int x)), some (.imm A1), some (.own (.l [A1, A1, .int x, .int x])), a10, a11] := by
    rcases h6 with rfl | rfl <;> simp [ta, tp, f1, f2, OB.toD]
  have W4 : g__law_right_5_4 [some (.brw o1), a1, a2, some (.imm (.lst S)), a4, some (.imm (.lst ES)), some (.imm (.obj 3 TF)), some (.imm (.int x)), some (.imm A1), some (.own (.l [A1, A1, .int x, .int x])), a10, a11] = .nx [some (.brw o1), a1, a2, some (.imm (.lst S)), a4, some (.imm (.lst ES)), some (.imm (.obj 3 TF)), some (.imm (.int x)), some (.imm A1), some (.imm (.lst [A1, A1, .int x, .int x])), a10, a11] := by simp [fReprT, g1, g2, OB.toD]
  have W5 : g__law_right_5_5 [some (.brw o1), a1, a2, some (.imm (.lst S)), a4, some (.imm (.lst ES)), some (.imm (.obj 3 TF)), some (.imm (.int x)), some (.imm A1), some (.imm (.lst [A1, A1, .int x, .int x])), a10, a11] = .nx [some (.brw o2), a1, a2, some (.imm (.lst S)), a4, some (.imm (.lst ES)), some (.imm (.obj 3 TF)), some (.imm (.int x)), some (.imm A1), some (.imm (.lst [A1, A1, .int x, .int x])), some (.imm A2), a11] := by simp [e3]
  have W6 : g__law_right_5_6 [some (.brw o2), a1, a2, some (.imm (.lst S)), a4, some (.imm (.lst ES)), some (.imm (.obj 3 TF)), some (.imm (.int x)), some (.imm A1), some (.imm (.lst [A1, A1, .int x, .int x])), some (.imm A2), a11] = .nx [some (.brw o2), a1, a2, some (.imm (.lst S)), a4, some (.imm (.lst ES)), some (.imm (.obj 3 TF)), some (.imm (.int x)), some (.imm A1), some (.imm (.lst [A1, A1, .int x, .int x])), some (.imm A2), some (.imm (.int y))] := by simp [e4]
  have W7 : g__law_right_5_7 [some (.brw o2), a1, a2, some (.imm (.lst S)), a4, some (.imm (.lst ES)), some (.imm (.obj 3 TF)), some (.imm (.int x)), some (.imm A1), some (.imm (.lst [A1, A1, .int x, .int x])), some (.imm A2), some (.imm (.int y))] = .nx [some (.brw o2), a1, a2, some (.imm (.lst S)), a4, some (.imm (.lst ES)), some (.imm (.obj 3 TF)), some (.imm (.int x)), some (.imm A1), some (.own (.l [.int y, .int y, A2])), some (.imm A2), some (.imm (.int y))] := by simp [ta, tp, f3, f4]
  have W8 : g__law_right_5_8 [some (.brw o2), a1, a2, some (.imm (.lst S)), a4, some (.imm (.lst ES)), some (.imm (.obj 3 TF)), some (.imm (.int x)), some (.imm A1), some (.own (.l [.int y, .int y, A2])), some (.imm A2), some (.imm (.int y))] = .nx [some (.brw o2), a1, a2, some (.imm (.lst S)), a4, some (.imm (.lst ES)), some (.imm (.obj 3 TF)), some (.imm (.int x)), some (.imm A1), some (.imm (.lst [.int y, .int y, A2])), some (.imm A2), some (.imm (.int y))] := by simp [fReprT, g3, g4, OB.toD]
  rw [show g__law_right_5B = sSeq g__law_right_5_1 (sSeq g__law_right_5_2 (sSeq g__law_right_5_3 (sSeq g__law_right_5_4 (sSeq g__law_right_5_5 (sSeq g__law_right_5_6 (sSeq g__law_right_5_7 g__law_right_5_8)))))) from rfl]
  rw [ap_sSeq, W1, SR.bind_nx, ap_sSeq, W2, SR.bind_nx, ap_sSeq, W3, SR.bind_nx, ap_sSeq, W4, SR.bind_nx, ap_sSeq, W5, SR.bind_nx, ap_sSeq, W6, SR.bind_nx, ap_sSeq, W7, SR.bind_nx, W8]
end
theorem turns_ok {s : List Int} (h : Good s) (hb : ∀ x, -(2 ^ 200 : Int) < act s x ∧ act s x < 2 ^ 200) {cs : List (List Nat)} (hcs : Cys s s.length cs) {sk : List Key} {sv : List D} {L : List (List Key × List D)} {R : List (Key × List D)} {ak : List Key} {av : List D} (I : TrI s (zs cs) sk sv L R ak av) {a1 a2 : Option TS.R} : ∀ (k i : Nat) (o : OB) (a4 s5 s6 a7 a8 a9 a10 a11 : Option TS.R), Pot o →
    (s5 = some (.own (.l (cs.map (entC s)))) ∨ s5 = some (.imm (.lst (cs.map (entC s))))) → (s6 = some (.own (.o 3 (trF s (zs cs) sk sv L R ak av))) ∨ s6 = some (.imm (trO s cs sk sv L R ak av))) → ∃ o' δ, Pot o' ∧ δ[0]? = some (some (.brw o')) ∧
    forL (tName 4) g__law_right_5B (iL (nats i k)) [some (.brw o), a1, a2, some (.imm (.lst (iL s))), a4, s5, s6, a7, a8, a9, a10, a11] = .nx δ
  | 0, i, o, a4, s5, s6, a7, a8, a9, a10, a11, p, _, _ => ⟨o, [some (.brw o), a1, a2, some (.imm (.lst (iL s))), a4, s5, s6, a7, a8, a9, a10, a11], p, rfl, by simp [nats, iL, forL]⟩
  | k + 1, i, o, a4, s5, s6, a7, a8, a9, a10, a11, p, h5, h6 => by
    obtain ⟨o1, r7, r8, r9, r10, r11, p1, e1⟩ := turn_ok h hb hcs I p (a1 := a1) (a2 := a2) (a4 := some (.imm (.int (i : Int)))) (a7 := a7) (a8 := a8) (a9 := a9) (a10 := a10) (a11 := a11) h5 h6
    obtain ⟨o2, δ, p2, d2, e2⟩ := turns_ok h hb hcs I (a1 := a1) (a2 := a2) k (i + 1) o1 (some (.imm (.int (i : Int)))) _ _ r7 r8 r9 r10 r11 p1 (.inr rfl) (.inr rfl)
    refine ⟨o2, δ, p2, d2, ?_⟩
    rw [← e2, nats_succ]
    simp only [forL, ap_tNameI, SR.bind_nx, List.set_cons_succ, List.set_cons_zero]
    rw [e1]
theorem right_ok {o : OB} (p : Pot o) : ∃ o', m__law_right (some o) [] = .ok (.imm (.bl true)) (some o') ∧ Pot o' := by
  obtain ⟨r1, o1, e1, p1, a1, b1⟩ := draw_ok p (m := 9) (by decide) (by decide)
  have hmany : ∃ (many : Int) (o2 : OB), Pot o2 ∧ 0 < many ∧ many ≤ 60 ∧ g__law_right_1 [some (.brw o), none, none, none, none, none, none, none, none, none, none, none] = .nx [some (.brw o2), some (.imm (.int many)), none, none, none, none, none, none, none, none, none, none] := by
    by_cases hr : r1 > 0
    · obtain ⟨r2, o2, e2, p2, a2, b2⟩ := draw_ok p1 (m := 12) (by decide) (by decide)
      exact ⟨1 + r2, o2, p2, by omega, by omega, by simp [e1, e2, hr]⟩
    · obtain ⟨r2, o2, e2, p2, a2, b2⟩ := draw_ok p1 (m := 60) (by decide) (by decide)
      exact ⟨1 + r2, o2, p2, by omega, by omega, by simp [e1, e2, hr]⟩
  obtain ⟨many, o2, p2, m0, m1, S1⟩ := hmany
  have hfac : ∃ (f : Int) (o3 : OB), Pot o3 ∧ (-100000000000000000000000000000000000 ≤ f ∧ f ≤ 100000000000000000000000000000000000) ∧ g__law_right_2 [some (.brw o2), some (.imm (.int many)), none, none, none, none, none, none, none, none, none, none] = .nx [some (.brw o3), some (.imm (.int many)), some (.imm (.int f)), none, none, none, none, none, none, none, none, none] := by
    obtain ⟨r3, o3, e3, p3, a3, b3⟩ := draw_ok p2 (m := 3) (by decide) (by decide)
    by_cases hr : r3 > 0
    · obtain ⟨r4, o4, e4, p4, a4, b4⟩ := draw_ok p3 (m := 4) (by decide) (by decide)
      exact ⟨1 + r4, o4, p4, by omega, by simp [e3, e4, hr]⟩
    · obtain ⟨r4, o4, e4, p4, a4, b4⟩ := draw_ok p3 (m := 5) (by decide) (by decide)
      obtain ⟨g, hg⟩ : ∃ g : Nat, 1 + r4 = (g : Int) := ⟨(1 + r4).toNat, by omega⟩
      obtain ⟨r5, o5, e5, p5, b5⟩ := great_ok p4 (g := g) (by omega)
      rw [← hg] at e5
      have hp : (10000000 : Int) ^ g ≤ 100000000000000000000000000000000000 := by
        rcases (show g = 1 ∨ g = 2 ∨ g = 3 ∨ g = 4 ∨ g = 5 by omega) with z | z | z | z | z <;> subst z <;> decide
      exact ⟨r5, o5, p5, by omega, by simp [e3, e4, e5, hr]⟩
  obtain ⟨f, o3, p3, hf, S2⟩ := hfac
  obtain ⟨t, o4, e4, p4, l4, gt, tb⟩ := tableR_good p3 (n := many) (f := f) (by omega) hf
  have hB : ∀ x, -(2 ^ 200 : Int) < act t x ∧ act t x < 2 ^ 200 := fun x => by
    have := act_bd gt.pos tb x
    omega
  have hs := gt.least
  have hB' : ∀ x, -(2 ^ 200 : Int) < act (least t) x ∧ act (least t) x < 2 ^ 200 := fun x => by rw [least_act gt.pos]; exact hB x
  obtain ⟨r, hr, le⟩ := law_least_ok gt
  have ll : least (least t) = least t := least_least gt.pos
  obtain ⟨cs, sk, sv, L, R, ak, av, hcs, I, i2⟩ := tracks_init hs hB'
  rw [ll] at hcs I i2
  have i2 : m_Tracks___init__ (some (.o 3 [])) [.obj 0 (planD (least (least t)))] = _ := i2
  rw [ll] at i2
  obtain ⟨es, hes, e6⟩ := law_cycles_ok hs
  have ee : es = cs := CyR.uniq hes.rr hcs.rr
  subst ee
  have i1 : m_Plan___init__ (some (.o 0 [])) [.lst (iL (least t))] = .ok (.imm .non) (some (.o 0 (planD (least (least t))))) := init_ok hs
  rw [ll] at i1
  obtain ⟨o5, δ5, p5, d5, e5⟩ := turns_ok hs hB' hcs I (a1 := some (.imm (.int many))) (a2 := some (.imm (.int f))) 10 0 o4 none _ _ none none none none none p4 (.inl rfl) (.inl rfl)
  refine ⟨o5, ?_, p5⟩
  generalize trF (least t) (zs es) sk sv L R ak av = TF at *
  generalize es.map (entC (least t)) = ES at *
  generalize planD (least t) = PT at *
  generalize hS : iL (least t) = S at *
  generalize iL t = T at *
  have S3 : ∃ s3 : TS.R, (s3 = .own (.l S) ∨ s3 = .imm (.lst S)) ∧ g__law_right_3 [some (.brw o3), some (.imm (.int many)), some (.imm (.int f)), none, none, none, none, none, none, none, none, none] = .nx [some (.brw o4), some (.imm (.int many)), some (.imm (.int f)), some s3, none, none, none, none, none, none, none, none] := by
    refine ⟨r, hr, ?_⟩
    rcases hr with rfl | rfl <;> simp [e4, le, OB.toD]
  obtain ⟨s3, hs3, S3⟩ := S3
  have S4 : g__law_right_4 [some (.brw o4), some (.imm (.int many)), some (.imm (.int f)), some s3, none, none, none, none, none, none, none, none] = .nx [some (.brw o4), some (.imm (.int many)), some (.imm (.int f)), some (.imm (.lst S)), none, some (.own (.l ES)), some (.own (.o 3 TF)), none, none, none, none, none] := by
    rcases hs3 with rfl | rfl <;> simp [e6, i1, i2, OB.toD]
  (unfold m__law_right g__law_right; unfold mir; rw [if_pos (by simp [ioN])]; simp only [ini, ioS, ioN, List.replicate, List.map_cons, List.map_nil, List.length_cons, List.length_nil, List.nil_append, List.cons_append, Nat.zero_add, Nat.reduceAdd, Nat.reduceSub])
  rw [ap_sSeq, S1, SR.bind_nx]
  rw [ap_sSeq, S2, SR.bind_nx]
  rw [ap_sSeq, S3, SR.bind_nx]
  rw [ap_sSeq, S4, SR.bind_nx]
  have it : itRg1 (kD (.int 10)) [some (.brw o4), some (.imm (.int many)), some (.imm (.int f)), some (.imm (.lst S)), none, some (.own (.l ES)), some (.own (.o 3 TF)), none, none, none, none, none] = .ok (iL (nats 0 10)) [some (.brw o4), some (.imm (.int many)), some (.imm (.int f)), some (.imm (.lst S)), none, some (.own (.l ES)), some (.own (.o 3 TF)), none, none, none, none, none] := itRg1_ok (k := 10) (by decide) rfl
  have S5 : g__law_right_5 [some (.brw o4), some (.imm (.int many)), some (.imm (.int f)), some (.imm (.lst S)), none, some (.own (.l ES)), some (.own (.o 3 TF)), none, none, none, none, none] = .nx δ5 := by
    rw [show g__law_right_5 = sFor (itRg1 (kD (.int 10))) (tName 4) g__law_right_5B from rfl, ap_sFor, it, Res.bindS_ok]
    exact e5
  rw [ap_sSeq, S5, SR.bind_nx]
  have S6 : g__law_right_6 δ5 = .rt (.imm (.bl true)) δ5 := by simp
  rw [S6]
  simp [outR, ioOut, d5]
theorem law_true (ns : List Int) (hl : ns.length ≤ 63) : m_law none [.scr (ns.map D.int)] = .ok (.imm (.bl true)) none := law_of (c := 4) (by decide) ns fun a ha => by
  obtain ⟨o, e, p⟩ := pot_ok ns a ha
  obtain ⟨o', e', p'⟩ := right_ok p
  simp [e, e', fOwnT]
end
end K21

set_option maxHeartbeats 0
namespace K21
open PySem L2 TS
theorem facts {P : Program} {w : World} {K : PySem.W.Frag} {h : Heap} {mg : Str → Option Value} {f : Addr} (X : K.In h) (G : h.Ns mainGlobals mg) (hfa : mg ("law" : Str) = some (.ref f)) (c : SaysS fa fn K) :
    ∃ fd : FuncData, (∀ (s : Shared) (v : Value), BindsTo s fd ⟨[v], []⟩ [("_law_script", v)]) ∧ ∀ base : Heap, K.In base → base.Ns mainGlobals mg → TS.FnOk P w K mg base (L2.CX P w) 10 f fd ["_law_script"] (spD (MM K) m_law) := by
  obtain ⟨fd, F⟩ := c.def_ 42 (d := d_law) rfl
  have e := hfa.symm.trans (He.glo_ok X G (c.fact 86 (f := .he (.glo "law")) rfl))
  cases e
  have b := FunD.bindsA (ps := ["_law_script"]) F fun _ _ _ _ _ _ us hl => match us, hl with | [_], _ => rfl
  exact ⟨fd, fun s v => b s [v] rfl, fun base hX hG => funD_mir (M := MM K) F S_law (by decide) (fun cdv A outer s H E hr tk hp => b_law (base := base) ⟨c, hX, hG⟩ cdv A outer s H E hr tk hp)⟩
theorem sp_law {K : PySem.W.Frag} {H : Hp} {a : Addr} {ns : List Int} (hl : ns.length ≤ 63) (hS : SqL K H a (ns.map V.int)) : spD (MM K) m_law [.ref a] H (fun v _ => v = .bl true) (fun _ _ _ => False) := by
  obtain ⟨F, s, tb, rs⟩ := entry (M := MM K) hS (fun p hp => by cases hp)
  refine ⟨F, none, 0, [.ref a], [.scr (ns.map D.int)], rfl, s, tb, rs, trivial, ?_⟩
  rw [law_true ns hl]
  intro v F' H' st ra ia
  have z : rep (MM K) F' (.bl true) v := ra
  unfold rep at z
  exact z
end K21
open PySem PySem.W PySem.Calls PyProof.Rows
theorem PySem.Challenge.cw_threeswaps_k21_addresses_and_places_holds : PySem.Challenge.rw_threeswaps_k21_addresses_and_places.Holds := by
  w_on; o_law
  refine HandSHeadRun.head_any (r := OpenLaw.row PySem.Challenge.rw_threeswaps_k21_addresses_and_places) (q := view (OpenLaw.row PySem.Challenge.rw_threeswaps_k21_addresses_and_places).prog [56]) (H := K21.hk) (ob := K21.ob) (M := 12000) (loose := K21.loose) (d := HandSHeadRun.topDef (OpenLaw.row PySem.Challenge.rw_threeswaps_k21_addresses_and_places).prog 56) (kwd := []) K21.ob_eq
    (by kernel_rfl) (fun s => by kernel_rfl) K21.run (by kernel_rfl) (by kernel_rfl) (by kernel_rfl) (by rfl) (by first | assumption | decide +kernel) (by decide +kernel) ⟨rfl, rfl, rfl, rfl, rfl, by decide +kernel⟩ ?hw ?hc
  case hw => w_witness2
  case hc =>
    refine TS.walk_ofW (l := PySem.Challenge.rw_threeswaps_k21_addresses_and_places) (n := 63) (k := 10) (x := "_law_script") (CX := fun w => L2.CX PySem.Challenge.rw_threeswaps_k21_addresses_and_places.prog w) rfl (by decide) (by kernel_rfl) ⟨⟨rfl, by decide, by decide⟩, rfl⟩ ?F (fun _ _ _ _ _ z => TS.noCX z)
    intro w mg fa h Y G hmg0
    obtain ⟨K, KX, c⟩ := Y
    have hmg : mg ("law" : PySem.Str) = some (.ref fa) := by
      have e : (HandSHeadRun.topDef (OpenLaw.row PySem.Challenge.rw_threeswaps_k21_addresses_and_places).prog 56).name = ("law" : PySem.Str) := by kernel_rfl
      rw [← e]
      exact hmg0
    obtain ⟨fd, hb, hF⟩ := K21.facts (P := (PySem.Challenge.rw_threeswaps_k21_addresses_and_places).prog) (w := w) KX G hmg c
    exact ⟨K, fd, _, KX, hb, fun H a ns hl _ hS => K21.sp_law hl hS, hF⟩
