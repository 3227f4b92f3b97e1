import PyProof.Rows.All
import Wide.All
import OpenK.AllK
import Wide.FinOn
import HandS.ForMost
import HandS.ForExc
import HandS.More
import HandS.Star
import HandS.ClsMeth
import HandS.Property
import HandS.Defaults
import HandS.IsInst
import HandS.Wide
import HandS.WideBits
import HandS.Conv
import HandS.Lambda
import KE.KStateDown
import Lean
import HandS.WordsExc
import HandS.Head0
import HandS.Head1
import HandS.Head2
import HandS.HeadEnd
import HandS.HeadHook1
import HandS.HeadHook2
import KE.KExcInit
import KE.KNestM
import KE.KSuper
import HandS.OwnEq
import HandS.MakeKw
import HandS.MakeKwOnly
import HandS.RaiseMore
import HandS.TryOnly
import HandS.Style
import HandS.SortInts
import PyProof.LongRange
import KE.GoesMore
import HandS.ExcInit
import HandS.ExcField
import HandS.ExcIs
import HandS.TryMany
import KE.KExcIs
import HandS.Zip
import KE.OsSetLaws
import HandS.SetKeys
import PyProof.DictMoreH
import HandS.Small
import OpenK.KOps
import KE.KCallOwn
import HandS.FStr
import HandS.Text
import HandS.DictSubView
import HandS.DictTup
import KE.SortKeyHeap
import KE.KSortKey
import HandS.DictComp
import KE.KDictList
import KE.KEqDict
import HandS.Nested
import HandS.Dict
import KE.KEqNest
import PyProof.NeKinds
import OpenK.KOwn
import PyProof.Rows.StrOr
import PyProof.StrHeap
import PyProof.ReprNest
import PyProof.ReprRoads
import OpenK.KWalk
import PyProof.DictFindH
import KE.GoesEnum
import KE.KDictZip
import HandS.ListItems
import KE.KIndexWalk
import HandS.EndTab
import PyProof.ReprBulk
import PyProof.FitsInt
import PySem.Challenge.RW_threeswaps_k32_places_carried
set_option Elab.async false
set_option linter.all false
set_option maxRecDepth 100000
set_option maxRecDepth 100000
set_option maxHeartbeats 4000000
namespace TS
open PySem L2
noncomputable section
noncomputable def gd (p : Prop) [Decidable p] : Bool := Classical.choose (⟨decide p, rfl⟩ : ∃ b, b = decide p)
theorem gd_eq (p : Prop) [Decidable p] : gd p = decide p := Classical.choose_spec (⟨decide p, rfl⟩ : ∃ b, b = decide p)
theorem gd_true {p : Prop} [Decidable p] (h : p) : gd p = true := by rw [gd_eq]; exact decide_eq_true h
theorem of_gd {p : Prop} [Decidable p] (h : gd p = true) : p := by rw [gd_eq] at h; exact of_decide_eq_true h
structure Lm where
  p : Hp → V → Prop
  mono : ∀ {F F' : Hp} {v : V}, Same F F' → p F v → p F' v
  rf : ∀ {F : Hp} {v : V}, p F v → ∃ a, v = .ref a
def L0 : Lm := ⟨fun _ _ => False, fun _ h => h, fun h => h.elim⟩
structure Gm where
  K : PySem.W.Frag
  G : Nat → Option Addr
  nm : Nat → List Str
  T : List (Addr × Str) := []
  lm : Lm := L0
def Gm.wl (M : Gm) (L : Lm) : Gm := { M with lm := L }
def TbOb : HO → Bool
  | .tbl _ => false
  | .ext _ => false
  | _ => true
abbrev TbO (o : HO) : Prop := TbOb o = true
def NTb : HO → Bool
  | .tbl _ => false
  | .ext _ => false
  | .tup _ => false
  | _ => true
abbrev NT (o : HO) : Prop := NTb o = true
theorem NT.tt {o : HO} (n : NT o) : TbO o := by cases o <;> first | rfl | cases n
instance {o : HO} : Coe (NT o) (TbO o) := ⟨NT.tt⟩
structure Tb (M : Gm) (F H : Hp) : Prop where
  tab : LamX.Tabs M.T H
  fr : ∀ p ∈ M.T, F p.1 = none
  nt : ∀ b ps, F b ≠ some (.tbl ps)
theorem Tb.keep {M : Gm} {F H F' H' : Hp} (t : Tb M F H) (k : ∀ b o, H b = some o → ¬ TbO o → H' b = some o) (kf : ∀ b o, H b = some o → ¬ TbO o → F b = none → F' b = none) (kn : ∀ b ps, F' b ≠ some (.tbl ps)) : Tb M F' H' where
  tab := fun p hp => by
    obtain ⟨ps, h1, h2, h3⟩ := t.tab p hp
    exact ⟨ps, k _ _ h1 (by intro z; cases z), h2, fun pos cv hc => by
      obtain ⟨c, e1, e2⟩ := h3 pos cv hc
      exact ⟨c, e1, k _ _ e2 (by intro z; cases z)⟩⟩
  fr := fun p hp => by
    obtain ⟨ps, h1, _⟩ := t.tab p hp
    exact kf _ _ h1 (by intro z; cases z) (t.fr p hp)
  nt := kn
theorem Tb.alloc {M : Gm} {F H : Hp} (t : Tb M F H) {p : Addr} {o : HO} (hp : H p = none) : Tb M F (upd H p o) :=
  t.keep (fun b u e _ => by rw [upd_ne (ne_of_none e hp)]; exact e) (fun _ _ _ _ z => z) t.nt
theorem Tb.frz {M : Gm} {F H : Hp} (t : Tb M F H) {p : Addr} {o u : HO} (hp : H p = some o) (n : TbO o) (n2 : TbO u := by first | rfl | assumption | exact NT.tt (by assumption)) : Tb M (upd F p u) H :=
  t.keep (fun b u e _ => e) (fun b v e z q => by
    rw [upd_ne (fun y => by rw [y, hp] at e; cases e; exact z n)]; exact q) fun b ps e => by
    by_cases z : b = p
    · rw [z, upd_same] at e; cases e; cases n2
    · rw [upd_ne z] at e; exact t.nt b ps e
theorem Tb.write {M : Gm} {F H : Hp} (t : Tb M F H) {p : Addr} {o u : HO} (hp : H p = some o) (n : TbO o) : Tb M F (upd H p u) :=
  t.keep (fun b v e z => by rw [upd_ne (fun y => by rw [y, hp] at e; cases e; exact z n)]; exact e) (fun _ _ _ _ q => q) t.nt
def str0 (H : Hp) : Hp := fun b => match H b with
  | some o => if NTb o then some o else none
  | none => none
theorem str0_nt {H : Hp} {b : Addr} {o : HO} (h : str0 H b = some o) : H b = some o ∧ NT o := by
  unfold str0 at h
  split at h
  · rename_i u e
    split at h
    · rename_i n; cases h; exact ⟨e, n⟩
    · cases h
  · cases h
theorem str0_of {H : Hp} {b : Addr} {o : HO} (h : H b = some o) (n : NT o) : str0 H b = some o := by
  unfold str0
  rw [h]
  simp [show NTb o = true from n]
theorem str0_none {H : Hp} {b : Addr} (h : str0 H b = none) : ∀ o, H b = some o → ¬ NT o := fun o e n => by
  rw [str0_of e n] at h; cases h
inductive D where
  | non | bl (b : Bool) | int (i : Int) | str (x : Str)
  | lst (xs : List D) | tup (xs : List D) | scr (xs : List D)
  | dK (ks : List Key) (vs : List D) | dT (ks : List (List Key)) (vs : List D)
  | obj (c : Nat) (vs : List D)
  | cls (c : Nat)
  | lam
  | ktp (ns : List Int)
inductive OB where
  | l (xs : List D) | dK (ks : List Key) (vs : List D) | dT (ks : List (List Key)) (vs : List D) | o (c : Nat) (vs : List D)
def OB.dic : OB → Bool
  | .dK _ _ => true
  | .dT _ _ => true
  | _ => false
def D.dic : D → Bool
  | .dK _ _ => true
  | .dT _ _ => true
  | _ => false
def OB.toD : OB → D
  | .l xs => .lst xs
  | .dK ks vs => .dK ks vs
  | .dT ks vs => .dT ks vs
  | .o c vs => .obj c vs
inductive R where
  | imm (d : D) | own (o : OB) | brw (o : OB) | nst (tp : Bool) (ps : List (D ⊕ OB))
def R.mu : R → Bool
  | .imm _ => false
  | .own _ => true
  | .brw _ => true
  | .nst _ _ => false
abbrev Sl := List (Option R)
structure XD where
  c : Nat
  vs : List D
inductive Res (α : Type) where
  | ok (a : α) (δ : Sl) | exc (x : XD) (δ : Sl) | bad
inductive SR where
  | nx (δ : Sl) | rt (r : R) (δ : Sl) | bk (δ : Sl) | ct (δ : Sl) | exc (x : XD) (δ : Sl) | bad
inductive FR where
  | ok (r : R) (io : Option OB) | exc (x : XD) (io : Option OB) | bad
abbrev Fm := Option OB → List D → FR
abbrev FE := Sl → Res R
abbrev FD := Sl → Res D
abbrev FA := Sl → Res (List D)
abbrev FT := Sl → Res Bool
abbrev FS := Sl → SR
def Res.bind {α β : Type} (m : Res α) (k : α → Sl → Res β) : Res β := match m with
  | .ok a δ => k a δ
  | .exc x δ => .exc x δ
  | .bad => .bad
def Res.bindS {α : Type} (m : Res α) (k : α → Sl → SR) : SR := match m with
  | .ok a δ => k a δ
  | .exc x δ => .exc x δ
  | .bad => .bad
@[simp] theorem Res.bind_ok {α β : Type} (a : α) (δ : Sl) (k : α → Sl → Res β) : (Res.ok a δ).bind k = k a δ := rfl
@[simp] theorem Res.bindS_ok {α : Type} (a : α) (δ : Sl) (k : α → Sl → SR) : (Res.ok a δ).bindS k = k a δ := rfl
@[simp] theorem Res.bind_exc {α β : Type} (x : XD) (δ : Sl) (k : α → Sl → Res β) : (Res.exc x δ : Res α).bind k = .exc x δ := rfl
@[simp] theorem Res.bindS_exc {α : Type} (x : XD) (δ : Sl) (k : α → Sl → SR) : (Res.exc x δ : Res α).bindS k = .exc x δ := rfl
def KTup (K : PySem.W.Frag) (a : Addr) (ns : List Int) : Prop := ∃ (o : Obj) (its : Array Value) (n : Nat), K.lookup a = some o ∧ o.cls = .type "tuple" ∧ o.data = .seq its n ∧ its.size ≤ 100 ∧ Vals (ns.map V.int) its.toList ∧ o.dict = none
def FTup (F : Hp) (a : Addr) (ns : List Int) : Prop := ∃ o : Obj, F a = some (.frz o (.tup (ns.map V.int))) ∧ o.dict = none
def ITup (K : PySem.W.Frag) (F : Hp) (a : Addr) (ns : List Int) : Prop := KTup K a ns ∨ FTup F a ns
mutual
def rep (M : Gm) (F : Hp) : D → V → Prop
  | .non, v => v = .non
  | .bl b, v => v = .bl b
  | .int i, v => v = .int i
  | .str x, v => v = .str x
  | .lst ds, v => ∃ a vs, v = .ref a ∧ F a = some (.lst vs) ∧ reps M F ds vs
  | .scr ds, v => ∃ a vs, v = .ref a ∧ SqL M.K F a vs ∧ reps M F ds vs
  | .tup ds, v => ∃ a vs, v = .ref a ∧ F a = some (.tup vs) ∧ reps M F ds vs
  | .dK ks ds, v => ∃ (a : Addr) (od : Obj) (kvs : List (Key × V)), v = .ref a ∧ F a = some (.frz od (.dK kvs)) ∧ kvs.map (·.1) = ks ∧ reps M F ds (kvs.map (·.2))
  | .dT ks ds, v => ∃ (a : Addr) (od : Obj) (kvs : List (List Key × V)), v = .ref a ∧ F a = some (.frz od (.dT kvs)) ∧ kvs.map (·.1) = ks ∧ reps M F ds (kvs.map (·.2))
  | .obj c ds, v => ∃ (a C dx : Addr) (fs : List (Str × V)), v = .ref a ∧ M.G c = some C ∧ F a = some (.ins C dx fs) ∧ fs.map (·.1) = (M.nm c).take ds.length ∧ reps M F ds (fs.map (·.2))
  | .cls c, v => ∃ C, M.G c = some C ∧ v = .ref C
  | .lam, v => M.lm.p F v
  | .ktp ns, v => ∃ a, v = .ref a ∧ ITup M.K F a ns
def reps (M : Gm) (F : Hp) : List D → List V → Prop
  | [], vs => vs = []
  | d :: ds, vs => ∃ v r, vs = v :: r ∧ rep M F d v ∧ reps M F ds r
end
def obAt (M : Gm) (F H : Hp) : OB → Addr → Prop
  | .l ds, a => ∃ vs, H a = some (.lst vs) ∧ reps M F ds vs
  | .dK ks ds, a => ∃ (kvs : List (Key × V)), H a = some (.dK kvs) ∧ kvs.map (·.1) = ks ∧ reps M F ds (kvs.map (·.2))
  | .dT ks ds, a => ∃ (kvs : List (List Key × V)), H a = some (.dT kvs) ∧ kvs.map (·.1) = ks ∧ reps M F ds (kvs.map (·.2))
  | .o c ds, a => ∃ (C dx : Addr) (fs : List (Str × V)), M.G c = some C ∧ H a = some (.ins C dx fs) ∧ fs.map (·.1) = (M.nm c).take ds.length ∧ reps M F ds (fs.map (·.2))
theorem Same.seqT {K : PySem.W.Frag} {H H' : Hp} {a : Addr} {xs : List V} (e : Same H H') (h : SqT K H a xs) : SqT K H' a xs := by
  rcases h with (h | ⟨o, h⟩) | h
  · exact .inl (.inl (e _ _ h))
  · exact .inl (.inr ⟨o, e _ _ h⟩)
  · exact .inr h
section
variable {M : Gm} {F F' H H' : Hp}
mutual
theorem rep_mono (e : Same F F') : ∀ (d : D) (v : V), rep M F d v → rep M F' d v
  | .non, v, h => by unfold rep at h ⊢; exact h
  | .bl _, v, h => by unfold rep at h ⊢; exact h
  | .int _, v, h => by unfold rep at h ⊢; exact h
  | .str _, v, h => by unfold rep at h ⊢; exact h
  | .lst ds, v, h => by
    unfold rep at h ⊢
    obtain ⟨a, vs, h1, h2, h3⟩ := h
    exact ⟨a, vs, h1, e _ _ h2, reps_mono e ds vs h3⟩
  | .scr ds, v, h => by
    unfold rep at h ⊢
    obtain ⟨a, vs, h1, h2, h3⟩ := h
    exact ⟨a, vs, h1, e.seq h2, reps_mono e ds vs h3⟩
  | .tup ds, v, h => by
    unfold rep at h ⊢
    obtain ⟨a, vs, h1, h2, h3⟩ := h
    exact ⟨a, vs, h1, e _ _ h2, reps_mono e ds vs h3⟩
  | .dK ks ds, v, h => by
    unfold rep at h ⊢
    obtain ⟨a, od, vs, h1, h2, h3, h4⟩ := h
    exact ⟨a, od, vs, h1, e _ _ h2, h3, reps_mono e ds _ h4⟩
  | .dT ks ds, v, h => by
    unfold rep at h ⊢
    obtain ⟨a, od, vs, h1, h2, h3, h4⟩ := h
    exact ⟨a, od, vs, h1, e _ _ h2, h3, reps_mono e ds _ h4⟩
  | .obj c ds, v, h => by
    unfold rep at h ⊢
    obtain ⟨a, C, dx, fs, h1, h2, h3, h4, h5⟩ := h
    exact ⟨a, C, dx, fs, h1, h2, e _ _ h3, h4, reps_mono e ds _ h5⟩
  | .cls c, v, h => by unfold rep at h ⊢; exact h
  | .lam, v, h => by unfold rep at h ⊢; exact M.lm.mono e h
  | .ktp ns, v, h => by
    unfold rep at h ⊢
    obtain ⟨a, h1, h2⟩ := h
    exact ⟨a, h1, h2.imp id fun ⟨o, h3, h4⟩ => ⟨o, e _ _ h3, h4⟩⟩
theorem reps_mono (e : Same F F') : ∀ (ds : List D) (vs : List V), reps M F ds vs → reps M F' ds vs
  | [], vs, h => by unfold reps at h ⊢; exact h
  | d :: ds, vs, h => by
    unfold reps at h ⊢
    obtain ⟨v, r, h1, h2, h3⟩ := h
    exact ⟨v, r, h1, rep_mono e d v h2, reps_mono e ds r h3⟩
end
theorem reps_length : ∀ {ds : List D} {vs : List V}, reps M F ds vs → vs.length = ds.length
  | [], vs, h => by unfold reps at h; rw [h]; rfl
  | d :: ds, vs, h => by
    unfold reps at h
    obtain ⟨v, r, rfl, _, h3⟩ := h
    simp [reps_length h3]
theorem reps_get : ∀ {ds : List D} {vs : List V} {i : Nat} {d : D}, reps M F ds vs → ds[i]? = some d → ∃ v, vs[i]? = some v ∧ rep M F d v
  | [], vs, i, d, h, e => by simp at e
  | d :: ds, vs, 0, d', h, e => by
    unfold reps at h
    obtain ⟨v, r, rfl, h2, h3⟩ := h
    simp at e; subst e
    exact ⟨v, rfl, h2⟩
  | d :: ds, vs, i + 1, d', h, e => by
    unfold reps at h
    obtain ⟨v, r, rfl, h2, h3⟩ := h
    simp at e
    obtain ⟨w, e1, e2⟩ := reps_get h3 e
    exact ⟨w, by simpa using e1, e2⟩
theorem reps_nil : reps M F [] [] := by unfold reps; rfl
theorem reps_cons {d : D} {ds : List D} {v : V} {vs : List V} (h1 : rep M F d v) (h2 : reps M F ds vs) : reps M F (d :: ds) (v :: vs) := by
  unfold reps; exact ⟨v, vs, rfl, h1, h2⟩
theorem reps_cons_iff {d : D} {ds : List D} {v : V} {vs : List V} : reps M F (d :: ds) (v :: vs) ↔ rep M F d v ∧ reps M F ds vs := by
  constructor
  · intro h
    unfold reps at h
    obtain ⟨v', r, e, h2, h3⟩ := h
    cases e
    exact ⟨h2, h3⟩
  · exact fun h => reps_cons h.1 h.2
theorem reps_append : ∀ {ds es : List D} {vs ws : List V}, reps M F ds vs → reps M F es ws → reps M F (ds ++ es) (vs ++ ws)
  | [], es, vs, ws, h, h' => by unfold reps at h; subst h; exact h'
  | d :: ds, es, vs, ws, h, h' => by
    unfold reps at h
    obtain ⟨v, r, rfl, h2, h3⟩ := h
    exact reps_cons h2 (reps_append h3 h')
theorem reps_take : ∀ {ds : List D} {vs : List V} (n : Nat), reps M F ds vs → reps M F (ds.take n) (vs.take n)
  | _, _, 0, _ => by simp [reps]
  | [], vs, n + 1, h => by unfold reps at h; subst h; simp [reps]
  | d :: ds, vs, n + 1, h => by
    unfold reps at h
    obtain ⟨v, r, rfl, h2, h3⟩ := h
    exact reps_cons h2 (reps_take n h3)
theorem reps_drop : ∀ {ds : List D} {vs : List V} (n : Nat), reps M F ds vs → reps M F (ds.drop n) (vs.drop n)
  | _, _, 0, h => h
  | [], vs, n + 1, h => by unfold reps at h; subst h; simp [reps]
  | d :: ds, vs, n + 1, h => by
    unfold reps at h
    obtain ⟨v, r, rfl, h2, h3⟩ := h
    exact reps_drop n h3
theorem reps_set : ∀ {ds : List D} {vs : List V} {d : D} {v : V} (i : Nat), reps M F ds vs → rep M F d v → reps M F (ds.set i d) (vs.set i v)
  | [], vs, d, v, i, h, _ => by unfold reps at h; subst h; simp [reps]
  | d0 :: ds, vs, d, v, 0, h, hv => by
    unfold reps at h
    obtain ⟨v0, r, rfl, h2, h3⟩ := h
    exact reps_cons hv h3
  | d0 :: ds, vs, d, v, i + 1, h, hv => by
    unfold reps at h
    obtain ⟨v0, r, rfl, h2, h3⟩ := h
    exact reps_cons h2 (reps_set i h3 hv)
theorem obAt_mono (e : Same F F') {o : OB} {a : Addr} (ha : H' a = H a) (h : obAt M F H o a) : obAt M F' H' o a := by
  cases o with
  | l ds => obtain ⟨vs, h1, h2⟩ := h; exact ⟨vs, ha.trans h1, reps_mono e _ _ h2⟩
  | dK ks ds => obtain ⟨vs, h1, h2, h3⟩ := h; exact ⟨vs, ha.trans h1, h2, reps_mono e _ _ h3⟩
  | dT ks ds => obtain ⟨vs, h1, h2, h3⟩ := h; exact ⟨vs, ha.trans h1, h2, reps_mono e _ _ h3⟩
  | o c ds => obtain ⟨C, dx, fs, h1, h2, h3, h4⟩ := h; exact ⟨C, dx, fs, h1, ha.trans h2, h3, reps_mono e _ _ h4⟩
theorem obAt_some {o : OB} {a : Addr} (h : obAt M F H o a) : ∃ u, H a = some u := by
  cases o with
  | l ds => obtain ⟨vs, h1, h2⟩ := h; exact ⟨_, h1⟩
  | dK ks ds => obtain ⟨vs, h1, h2, h3⟩ := h; exact ⟨_, h1⟩
  | dT ks ds => obtain ⟨vs, h1, h2, h3⟩ := h; exact ⟨_, h1⟩
  | o c ds => obtain ⟨C, dx, fs, h1, h2, h3, h4⟩ := h; exact ⟨_, h2⟩
theorem obAt_nt {o : OB} {a : Addr} (h : obAt M F H o a) : ∃ u, H a = some u ∧ NT u := by
  cases o with
  | l ds => obtain ⟨vs, h1, h2⟩ := h; exact ⟨_, h1, rfl⟩
  | dK ks ds => obtain ⟨vs, h1, h2, h3⟩ := h; exact ⟨_, h1, rfl⟩
  | dT ks ds => obtain ⟨vs, h1, h2, h3⟩ := h; exact ⟨_, h1, rfl⟩
  | o c ds => obtain ⟨C, dx, fs, h1, h2, h3, h4⟩ := h; exact ⟨_, h2, rfl⟩
theorem obAt_rep {o : OB} {a : Addr} (hd : o.dic = false) (h : obAt M F F o a) : rep M F o.toD (.ref a) := by
  cases o with
  | l ds => obtain ⟨vs, h1, h2⟩ := h; unfold OB.toD rep; exact ⟨a, vs, rfl, h1, h2⟩
  | dK ks ds => cases hd
  | dT ks ds => cases hd
  | o c ds => obtain ⟨C, dx, fs, h1, h2, h3, h4⟩ := h; unfold OB.toD rep; exact ⟨a, C, dx, fs, rfl, h1, h2, h3, h4⟩
theorem obAt_repD {o : OB} {a : Addr} {u : HO} {od : Obj} (hd : o.dic = true) (hu : H a = some u) (hF : F' a = some (.frz od u)) (g : Same F F') (h : obAt M F H o a) : rep M F' o.toD (.ref a) := by
  cases o with
  | l ds => cases hd
  | dK ks ds =>
    obtain ⟨vs, h1, h2, h3⟩ := h
    rw [hu] at h1; cases h1
    unfold OB.toD rep; exact ⟨a, od, vs, rfl, hF, h2, reps_mono g _ _ h3⟩
  | dT ks ds =>
    obtain ⟨vs, h1, h2, h3⟩ := h
    rw [hu] at h1; cases h1
    unfold OB.toD rep; exact ⟨a, od, vs, rfl, hF, h2, reps_mono g _ _ h3⟩
  | o c ds => cases hd
theorem obAt_mut {o : OB} {a : Addr} (h : obAt M F H o a) : ∃ u, H a = some u ∧ NT u ∧ Mut (some u) := by
  cases o with
  | l ds => obtain ⟨vs, h1, h2⟩ := h; exact ⟨_, h1, rfl, True.intro⟩
  | dK ks ds => obtain ⟨vs, h1, h2, h3⟩ := h; exact ⟨_, h1, rfl, True.intro⟩
  | dT ks ds => obtain ⟨vs, h1, h2, h3⟩ := h; exact ⟨_, h1, rfl, True.intro⟩
  | o c ds => obtain ⟨C, dx, fs, h1, h2, h3, h4⟩ := h; exact ⟨_, h2, rfl, True.intro⟩
end
inductive LkS (Q : Hp → Prop) : Hp → Prop where
  | now {H : Hp} (h : Q H) : LkS Q H
  | lock {H : Hp} (d : Addr) (u : HO) (h : H d = some u) (mu : Mut (some u)) (k : ∀ od, LkS Q (upd H d (.frz od u))) : LkS Q H
theorem LkS.mono {Q R : Hp → Prop} {H : Hp} (l : LkS Q H) (h : ∀ H', Q H' → R H') : LkS R H := by
  induction l with
  | now q => exact .now (h _ q)
  | lock d u e mu _ ih => exact .lock d u e mu ih
theorem LkS.bind {Q R : Hp → Prop} {H : Hp} (l : LkS Q H) (h : ∀ H', Q H' → LkS R H') : LkS R H := by
  induction l with
  | now q => exact h _ q
  | lock d u e mu _ ih => exact .lock d u e mu ih
section
variable {X : Cx} {pins : List (Addr × Obj)} {σ : St} {s : Shared}
theorem LkS.inv {Q : Hp → Prop} {H : Hp} (l : LkS Q H) (I : Inv X pins σ H s) : ∃ H', Inv X pins σ H' s ∧ Q H' := by
  induction l with
  | now q => exact ⟨_, I, q⟩
  | lock d u e mu _ ih =>
    obtain ⟨od, I'⟩ := I.lock e mu
    exact ih od I'
theorem pe_lks {e : Expr} {t : TE} (p : PE X e t) : PE X e (fun σ H Q => t σ H fun v H' => LkS (Q v) H') := by
  refine ⟨fun pins s σ H Q I h => thn (p.run pins s σ H _ I h) fun v s1 ⟨x, H1, I1, r, q⟩ => ?_⟩
  obtain ⟨H2, I2, q2⟩ := q.inv I1
  exact ⟨x, H2, I2, r, q2⟩
end
def nAt (M : Gm) (F H : Hp) : D ⊕ OB → V → Prop
  | .inl d, v => rep M F d v
  | .inr o, v => ∃ b, v = .ref b ∧ obAt M F H o b
def nAdr : List (D ⊕ OB) → List V → List Addr
  | .inr _ :: ps, .ref b :: vs => b :: nAdr ps vs
  | _ :: ps, _ :: vs => nAdr ps vs
  | _, _ => []
def nOwn (tp : Bool) (ps : List (D ⊕ OB)) (a : Addr) (vs : List V) : List Addr := if tp then nAdr ps vs else a :: nAdr ps vs
structure NAt (M : Gm) (F H : Hp) (tp : Bool) (ps : List (D ⊕ OB)) (a : Addr) (vs : List V) : Prop where
  top : if tp then F a = some (.tup vs) else H a = some (.lst vs)
  pts : Paired (nAt M F H) ps vs
  nod : (nOwn tp ps a vs).Nodup
theorem nAts_mono {M : Gm} {F F' H H' : Hp} (g : Same F F') : ∀ {ps : List (D ⊕ OB)} {vs : List V}, (∀ b ∈ nAdr ps vs, H' b = H b) → Paired (nAt M F H) ps vs → Paired (nAt M F' H') ps vs
  | [], _, _, .nil => .nil
  | .inl d :: ps, v :: vs, h, .cons h1 h2 => .cons (rep_mono g _ _ h1) (nAts_mono g (fun b hb => h b (by cases v <;> exact hb)) h2)
  | .inr o :: ps, v :: vs, h, .cons h1 h2 => by
    obtain ⟨b, rfl, h1⟩ := h1
    exact .cons ⟨b, rfl, obAt_mono g (h b (List.mem_cons_self ..)) h1⟩ (nAts_mono g (fun b hb => h b (List.mem_cons_of_mem _ hb)) h2)
theorem NAt.mono {M : Gm} {F F' H H' : Hp} {tp : Bool} {ps : List (D ⊕ OB)} {a : Addr} {vs : List V} (n : NAt M F H tp ps a vs) (g : Same F F') (h : ∀ b ∈ nOwn tp ps a vs, H' b = H b) : NAt M F' H' tp ps a vs where
  top := by
    have t := n.top
    cases tp with
    | true => exact g _ _ t
    | false => exact (h a (List.mem_cons_self ..)).trans t
  pts := nAts_mono g (fun b hb => h b (by cases tp with | true => exact hb | false => exact List.mem_cons_of_mem _ hb)) n.pts
  nod := n.nod
theorem nAdr_nt {M : Gm} {F H : Hp} : ∀ {ps : List (D ⊕ OB)} {vs : List V}, Paired (nAt M F H) ps vs → ∀ b ∈ nAdr ps vs, ∃ u, H b = some u ∧ NT u
  | [], _, .nil, b, hb => by cases hb
  | .inl d :: ps, v :: vs, .cons h1 h2, b, hb => nAdr_nt h2 b (by cases v <;> exact hb)
  | .inr o :: ps, v :: vs, .cons h1 h2, b, hb => by
    obtain ⟨b', rfl, h1⟩ := h1
    rcases List.mem_cons.mp hb with rfl | hb
    · exact obAt_nt h1
    · exact nAdr_nt h2 b hb
theorem NAt.nt {M : Gm} {F H : Hp} {tp : Bool} {ps : List (D ⊕ OB)} {a : Addr} {vs : List V} (n : NAt M F H tp ps a vs) {b : Addr} (hb : b ∈ nOwn tp ps a vs) : ∃ u, H b = some u ∧ NT u := by
  have t := n.top
  cases tp with
  | true => exact nAdr_nt n.pts b hb
  | false =>
    rcases List.mem_cons.mp hb with rfl | hb
    · exact ⟨_, t, rfl⟩
    · exact nAdr_nt n.pts b hb
structure Cn (M : Gm) where
  F0 : Hp
  H0 : Hp
  io : Option Addr
  iob : ∀ a, io = some a → H0 a ≠ none
  nt : ∀ b o, H0 b = some o → NT o
  nd : Option (Addr × List V × List Addr)
  ndh : ∀ z, nd = some z → ∀ b ∈ z.2.2, H0 b ≠ none ∧ F0 b = none ∧ io ≠ some b
def slotOk (c : Cn M) (F H : Hp) : R → V → Prop
  | .imm d, v => rep M F d v
  | .own o, v => ∃ a, v = .ref a ∧ F a = none ∧ c.H0 a = none ∧ obAt M F H o a
  | .brw o, v => ∃ a, v = .ref a ∧ F a = none ∧ c.io = some a ∧ obAt M F H o a
  | .nst tp ps, v => ∃ a vs, v = .ref a ∧ c.nd = some (a, vs, nOwn tp ps a vs) ∧ NAt M F c.H0 tp ps a vs
structure Ok (c : Cn M) (F H : Hp) (σ : St) (δ : Sl) : Prop where
  same : Same F H
  grow : Same c.F0 F
  nofz : ∀ b, c.H0 b ≠ none → c.F0 b = none → F b = none
  kept : ∀ b o, c.H0 b = some o → c.io ≠ some b → H b = some o
  ioh : ∀ a, c.io = some a → ∃ u, H a = some u ∧ NT u
  tb : Tb M F H
  len : σ.length = δ.length
  slot : ∀ (i : Nat) (r : R), δ[i]? = some (some r) → ∃ v, σ[i]? = some (some v) ∧ slotOk c F H r v
  dist : ∀ (i j : Nat) (r r' : R) (v : V), i ≠ j → δ[i]? = some (some r) → δ[j]? = some (some r') → r.mu = true → r'.mu = true → σ[i]? = some (some v) → σ[j]? = some (some v) → False
def repR (c : Cn M) (F H : Hp) (σ : St) (δ : Sl) : R → V → Prop
  | .imm d, v => rep M F d v
  | .own o, v => ∃ a, v = .ref a ∧ F a = none ∧ c.H0 a = none ∧ obAt M F H o a ∧ ∀ (i : Nat) (r : R), δ[i]? = some (some r) → r.mu = true → σ[i]? ≠ some (some (V.ref a))
  | .brw _, _ => False
  | .nst tp ps, v => ∃ a vs, v = .ref a ∧ NAt M F H tp ps a vs ∧ ∀ b ∈ nOwn tp ps a vs, F b = none ∧ c.H0 b = none ∧ ∀ (i : Nat) (r : R), δ[i]? = some (some r) → r.mu = true → σ[i]? ≠ some (some (V.ref b))
section
variable {M : Gm} {c : Cn M} {F F' H H' : Hp} {σ : St} {δ : Sl}
theorem slot_nst {tp : Bool} {ps : List (D ⊕ OB)} {v : V} (g : Same F F') (h : slotOk c F H (.nst tp ps) v) : slotOk c F' H' (.nst tp ps) v := by
  obtain ⟨a, vs, h1, h2, h3⟩ := h
  exact ⟨a, vs, h1, h2, h3.mono g fun _ _ => rfl⟩
theorem Ok.h0 (ok : Ok c F H σ δ) {p : Addr} (hp : H p = none) : c.H0 p = none := by
  cases e : c.H0 p with
  | none => rfl
  | some o =>
    by_cases hi : c.io = some p
    · obtain ⟨u, e1, _⟩ := ok.ioh p hi
      rw [hp] at e1; cases e1
    · rw [ok.kept p o e hi] at hp; cases hp
theorem Ok.hn (ok : Ok c F H σ δ) {p : Addr} (hp : c.H0 p ≠ none) : ∃ u, H p = some u ∧ NT u := by
  by_cases hi : c.io = some p
  · exact ok.ioh p hi
  · cases e : c.H0 p with
    | none => exact absurd e hp
    | some o => exact ⟨o, ok.kept p o e hi, c.nt p o e⟩
theorem Ok.h1 (ok : Ok c F H σ δ) {p : Addr} (hp : ∀ o, H p = some o → ¬ NT o) : c.H0 p = none := by
  cases e : c.H0 p with
  | none => rfl
  | some o =>
    obtain ⟨u, e1, e2⟩ := ok.hn (p := p) (by rw [e]; exact fun z => by cases z)
    exact absurd e2 (hp u e1)
theorem Ok.f (ok : Ok c F H σ δ) {p : Addr} (hp : H p = none) : F p = none := ok.same.free hp
theorem Ok.mus (ok : Ok c F H σ δ) {i : Nat} {r : R} (e : δ[i]? = some (some r)) (hm : r.mu = true) : ∃ a o, σ[i]? = some (some (.ref a)) ∧ F a = none ∧ obAt M F H o a ∧ (r = .own o ∧ c.H0 a = none ∨ r = .brw o ∧ c.io = some a) := by
  obtain ⟨v, e1, e2⟩ := ok.slot i r e
  cases r with
  | imm d => cases hm
  | own o => obtain ⟨a, rfl, h1, h2, h3⟩ := e2; exact ⟨a, o, e1, h1, h3, .inl ⟨rfl, h2⟩⟩
  | brw o => obtain ⟨a, rfl, h1, h2, h3⟩ := e2; exact ⟨a, o, e1, h1, h3, .inr ⟨rfl, h2⟩⟩
  | nst tp ps => cases hm
theorem Ok.fresh1 (ok : Ok c F H σ δ) {p : Addr} (hp : ∀ o, H p = some o → ¬ NT o) : ∀ (i : Nat) (r : R), δ[i]? = some (some r) → r.mu = true → σ[i]? ≠ some (some (V.ref p)) := fun i r e hm q => by
  obtain ⟨a, o, e1, _, h3, _⟩ := ok.mus e hm
  rw [e1] at q
  cases q
  obtain ⟨u, hu, n⟩ := obAt_nt h3
  exact hp u hu n
theorem Ok.fresh (ok : Ok c F H σ δ) {p : Addr} (hp : H p = none) : ∀ (i : Nat) (r : R), δ[i]? = some (some r) → r.mu = true → σ[i]? ≠ some (some (V.ref p)) := fun i r e hm q => by
  obtain ⟨a, o, e1, _, h3, _⟩ := ok.mus e hm
  rw [e1] at q
  cases q
  obtain ⟨u, hu⟩ := obAt_some h3
  rw [hu] at hp; cases hp
theorem Ok.alloc (ok : Ok c F H σ δ) {p : Addr} {o : HO} (hp : H p = none) : Ok c F (upd H p o) σ δ where
  same := fun b u e => by rw [upd_ne (ne_of_none (ok.same b u e) hp)]; exact ok.same b u e
  grow := ok.grow
  nofz := ok.nofz
  kept := fun b u e hi => by
    have := ok.kept b u e hi
    rw [upd_ne (ne_of_none this hp)]; exact this
  ioh := fun a e => by
    obtain ⟨u, e1, e2⟩ := ok.ioh a e
    exact ⟨u, by rw [upd_ne (ne_of_none e1 hp)]; exact e1, e2⟩
  tb := ok.tb.alloc hp
  len := ok.len
  slot := fun i r e => by
    obtain ⟨v, e1, e2⟩ := ok.slot i r e
    refine ⟨v, e1, ?_⟩
    cases r with
    | imm d => exact e2
    | own ob =>
      obtain ⟨a, rfl, h1, h2, h3⟩ := e2
      obtain ⟨u, hu⟩ := obAt_some h3
      exact ⟨a, rfl, h1, h2, obAt_mono (Same.refl _) (upd_ne (ne_of_none hu hp)) h3⟩
    | brw ob =>
      obtain ⟨a, rfl, h1, h2, h3⟩ := e2
      obtain ⟨u, hu⟩ := obAt_some h3
      exact ⟨a, rfl, h1, h2, obAt_mono (Same.refl _) (upd_ne (ne_of_none hu hp)) h3⟩
    | nst tp ps => exact e2
  dist := ok.dist
theorem Ok.made (ok : Ok c F H σ δ) {p : Addr} {o : HO} {ob : OB} (hp : H p = none) (h : obAt M F (upd H p o) ob p) : repR c F (upd H p o) σ δ (.own ob) (.ref p) :=
  ⟨p, rfl, ok.f hp, ok.h0 hp, h, ok.fresh hp⟩
theorem Ok.freeze (ok : Ok c F H σ δ) {ob : OB} {v : V} (r : repR c F H σ δ (.own ob) v) : LkS (fun H' => ∃ F', Same F F' ∧ Ok c F' H' σ δ ∧ rep M F' ob.toD v) H := by
  obtain ⟨a, rfl, h1, h2, h3, h4⟩ := r
  obtain ⟨u, hu, hnu, hmu⟩ := obAt_mut h3
  have key : ∀ (u' : HO) (H' : Hp), NT u' → H' a = some u' → (∀ b, b ≠ a → H' b = H b) → Tb M (upd F a u') H' → Same F (upd F a u') ∧ Ok c (upd F a u') H' σ δ := fun u' H' hn' ea eb htb => by
    have g : Same F (upd F a u') := fun b o e => by rw [upd_ne (ne_of_none e h1)]; exact e
    refine ⟨g, fun b o e => ?_, ok.grow.trans g, fun b e1 e2 => ?_, fun b o e hi => ?_, fun b e => ?_, htb, ok.len, fun i r e => ?_, ok.dist⟩
    · by_cases q : b = a
      · subst q; rw [upd_same] at e; cases e; exact ea
      · rw [upd_ne q] at e; rw [eb b q]; exact ok.same b o e
    · have q : b ≠ a := fun z => e1 (z ▸ h2)
      rw [upd_ne q]; exact ok.nofz b e1 e2
    · have q : b ≠ a := fun z => by rw [z, h2] at e; cases e
      rw [eb b q]; exact ok.kept b o e hi
    · have q : b ≠ a := fun z => c.iob b e (z ▸ h2)
      rw [eb b q]; exact ok.ioh b e
    · obtain ⟨v, e1, e2⟩ := ok.slot i r e
      refine ⟨v, e1, ?_⟩
      cases r with
      | imm d => exact rep_mono g _ _ e2
      | own o =>
        obtain ⟨a', rfl, k1, k2, k3⟩ := e2
        have q : a' ≠ a := fun z => h4 i _ e rfl (by rw [e1, z])
        exact ⟨a', rfl, by rw [upd_ne q]; exact k1, k2, obAt_mono g (eb a' q) k3⟩
      | brw o =>
        obtain ⟨a', rfl, k1, k2, k3⟩ := e2
        have q : a' ≠ a := fun z => h4 i _ e rfl (by rw [e1, z])
        exact ⟨a', rfl, by rw [upd_ne q]; exact k1, k2, obAt_mono g (eb a' q) k3⟩
      | nst tp ps => exact slot_nst g e2
  cases hd : ob.dic with
  | false =>
    obtain ⟨g, ok'⟩ := key u H hnu hu (fun _ _ => rfl) (ok.tb.frz hu hnu)
    exact .now ⟨upd F a u, g, ok', obAt_rep hd (obAt_mono g (upd_same.trans hu.symm) h3)⟩
  | true =>
    refine .lock a u hu hmu fun od => .now ?_
    obtain ⟨g, ok'⟩ := key (.frz od u) (upd H a (.frz od u)) rfl upd_same (fun b z => upd_ne z) ((ok.tb.frz hu hnu rfl).keep (fun b o e z => by
      rw [upd_ne (fun y => by rw [y, hu] at e; cases e; exact z hnu)]; exact e) (fun b o e z q => q) (ok.tb.frz hu hnu rfl).nt)
    exact ⟨upd F a (.frz od u), g, ok', obAt_repD hd hu upd_same g h3⟩
theorem getElem?_set_some {α : Type} {l : List α} {i j : Nat} {x y : α} (h : (l.set i x)[j]? = some y) : (i = j ∧ x = y ∧ i < l.length) ∨ (i ≠ j ∧ l[j]? = some y) := by
  by_cases e : i = j
  · subst e
    by_cases hl : i < l.length
    · rw [List.getElem?_set_self hl] at h
      exact .inl ⟨rfl, Option.some.inj h, hl⟩
    · rw [List.getElem?_eq_none (by simpa using hl)] at h; cases h
  · rw [List.getElem?_set_ne e] at h
    exact .inr ⟨e, h⟩
theorem Ok.setI (ok : Ok c F H σ δ) {d : D} {v : V} (i : Nat) (r : rep M F d v) : Ok c F H (σ.set i (some v)) (δ.set i (some (.imm d))) where
  same := ok.same
  grow := ok.grow
  nofz := ok.nofz
  kept := ok.kept
  ioh := ok.ioh
  tb := ok.tb
  len := by simp [ok.len]
  slot := fun j r' e => by
    rcases getElem?_set_some e with ⟨rfl, e1, hl⟩ | ⟨hn, e1⟩
    · cases e1
      exact ⟨v, List.getElem?_set_self (by rw [ok.len]; exact hl), r⟩
    · rw [List.getElem?_set_ne hn]
      exact ok.slot j r' e1
  dist := fun j k r1 r2 w hjk e1 e2 m1 m2 s1 s2 => by
    rcases getElem?_set_some e1 with ⟨rfl, q, _⟩ | ⟨hn, q1⟩
    · cases q; cases m1
    · rcases getElem?_set_some e2 with ⟨rfl, q, _⟩ | ⟨hn2, q2⟩
      · cases q; cases m2
      · rw [List.getElem?_set_ne hn] at s1
        rw [List.getElem?_set_ne hn2] at s2
        exact ok.dist j k r1 r2 w hjk q1 q2 m1 m2 s1 s2
theorem Ok.setO (ok : Ok c F H σ δ) {ob : OB} {v : V} (i : Nat) (r : repR c F H σ δ (.own ob) v) : Ok c F H (σ.set i (some v)) (δ.set i (some (.own ob))) where
  same := ok.same
  grow := ok.grow
  nofz := ok.nofz
  kept := ok.kept
  ioh := ok.ioh
  tb := ok.tb
  len := by simp [ok.len]
  slot := fun j r' e => by
    rcases getElem?_set_some e with ⟨rfl, e1, hl⟩ | ⟨hn, e1⟩
    · cases e1
      obtain ⟨a, rfl, h1, h2, h3, _⟩ := r
      exact ⟨.ref a, List.getElem?_set_self (by rw [ok.len]; exact hl), a, rfl, h1, h2, h3⟩
    · rw [List.getElem?_set_ne hn]
      exact ok.slot j r' e1
  dist := fun j k r1 r2 w hjk e1 e2 m1 m2 s1 s2 => by
    obtain ⟨a, rfl, h1, h2, h3, h4⟩ := r
    rcases getElem?_set_some e1 with ⟨rfl, q, hl⟩ | ⟨hn, q1⟩
    · rw [List.getElem?_set_self (by rw [ok.len]; exact hl)] at s1
      rcases getElem?_set_some e2 with ⟨rfl, q, _⟩ | ⟨hn2, q2⟩
      · exact hjk rfl
      · rw [List.getElem?_set_ne hn2] at s2
        cases s1
        exact h4 k r2 q2 m2 s2
    · rw [List.getElem?_set_ne hn] at s1
      rcases getElem?_set_some e2 with ⟨rfl, q, hl⟩ | ⟨hn2, q2⟩
      · rw [List.getElem?_set_self (by rw [ok.len]; exact hl)] at s2
        cases s2
        exact h4 j r1 q1 m1 s1
      · rw [List.getElem?_set_ne hn2] at s2
        exact ok.dist j k r1 r2 w hjk q1 q2 m1 m2 s1 s2
theorem Ok.mutate (ok : Ok c F H σ δ) {i : Nat} {r r' : R} {a : Addr} {ob ob' : OB} (e : δ[i]? = some (some r)) (hr : r = .own ob ∧ r' = .own ob' ∨ r = .brw ob ∧ r' = .brw ob') (ea : σ[i]? = some (some (.ref a))) (g : Same F F')
    (hF : ∀ b o, b ≠ a → H b = some o → NT o → F b = none → F' b = none) (hFa : F' a = none)
    (hk : ∀ b o, b ≠ a → NT o → H b = some o → H' b = some o) (hs : Same F' H') (htb : Tb M F' H') (hob : obAt M F' H' ob' a) : Ok c F' H' σ (δ.set i (some r')) := by
  have hm : r.mu = true := by rcases hr with ⟨rfl, _⟩ | ⟨rfl, _⟩ <;> rfl
  have hm' : r'.mu = true := by rcases hr with ⟨_, rfl⟩ | ⟨_, rfl⟩ <;> rfl
  obtain ⟨a', o', q1, q2, q3, q4⟩ := ok.mus e hm
  rw [ea] at q1; cases q1
  have ha0 : c.H0 a = none ∨ c.io = some a := by rcases q4 with ⟨_, z⟩ | ⟨_, z⟩; exact .inl z; exact .inr z
  have hfa : F a = none := q2
  refine ⟨hs, ok.grow.trans g, fun b e1 e2 => ?_, fun b o e1 e2 => ?_, fun b e1 => ?_, htb, by simp [ok.len], fun j r1 e1 => ?_, fun j k r1 r2 w hjk e1 e2 m1 m2 s1 s2 => ?_⟩
  · by_cases z : b = a
    · subst z; exact hFa
    · obtain ⟨u, k1, k2⟩ := ok.hn e1
      exact hF b u z k1 k2 (ok.nofz b e1 e2)
  · have z : b ≠ a := fun z => by
      subst z
      rcases ha0 with z | z
      · rw [z] at e1; cases e1
      · exact e2 z
    exact hk b o z (c.nt b o e1) (ok.kept b o e1 e2)
  · obtain ⟨u, hu, hn⟩ := obAt_nt hob
    by_cases z : b = a
    · subst z; exact ⟨u, hu, hn⟩
    · obtain ⟨o, q1, q2⟩ := ok.ioh b e1
      exact ⟨o, hk b o z q2 q1, q2⟩
  · rcases getElem?_set_some e1 with ⟨rfl, z, hl⟩ | ⟨hn, e1⟩
    · cases z
      refine ⟨.ref a, ea, ?_⟩
      rcases hr with ⟨rfl, rfl⟩ | ⟨rfl, rfl⟩
      · rcases q4 with ⟨_, z⟩ | ⟨z, _⟩
        · exact ⟨a, rfl, hFa, z, hob⟩
        · cases z
      · rcases q4 with ⟨z, _⟩ | ⟨_, z⟩
        · cases z
        · exact ⟨a, rfl, hFa, z, hob⟩
    · obtain ⟨v, s1, s2⟩ := ok.slot j r1 e1
      refine ⟨v, s1, ?_⟩
      cases r1 with
      | imm d => exact rep_mono g _ _ s2
      | own o =>
        obtain ⟨b, rfl, k1, k2, k3⟩ := s2
        have z : b ≠ a := fun z => ok.dist i j r (.own o) (.ref a) hn e e1 hm rfl ea (by rw [s1, z])
        obtain ⟨u, hu, hn⟩ := obAt_nt k3
        exact ⟨b, rfl, hF b u z hu hn k1, k2, obAt_mono g ((hk b u z hn hu).trans hu.symm) k3⟩
      | brw o =>
        obtain ⟨b, rfl, k1, k2, k3⟩ := s2
        have z : b ≠ a := fun z => ok.dist i j r (.brw o) (.ref a) hn e e1 hm rfl ea (by rw [s1, z])
        obtain ⟨u, hu, hn⟩ := obAt_nt k3
        exact ⟨b, rfl, hF b u z hu hn k1, k2, obAt_mono g ((hk b u z hn hu).trans hu.symm) k3⟩
      | nst tp ps => exact slot_nst g s2
  · have f1 : ∃ q, δ[j]? = some (some q) ∧ q.mu = true := by
      rcases getElem?_set_some e1 with ⟨rfl, z, hl⟩ | ⟨hn, z⟩
      · exact ⟨r, e, hm⟩
      · exact ⟨r1, z, m1⟩
    have f2 : ∃ q, δ[k]? = some (some q) ∧ q.mu = true := by
      rcases getElem?_set_some e2 with ⟨rfl, z, hl⟩ | ⟨hn, z⟩
      · exact ⟨r, e, hm⟩
      · exact ⟨r2, z, m2⟩
    obtain ⟨x1, y1, z1⟩ := f1
    obtain ⟨x2, y2, z2⟩ := f2
    exact ok.dist j k x1 x2 w hjk y1 y2 z1 z2 s1 s2
theorem Ok.write (ok : Ok c F H σ δ) {i : Nat} {r r' : R} {a : Addr} {ob ob' : OB} {o : HO} (e : δ[i]? = some (some r)) (hr : r = .own ob ∧ r' = .own ob' ∨ r = .brw ob ∧ r' = .brw ob') (ea : σ[i]? = some (some (.ref a)))
    (hob : obAt M F (upd H a o) ob' a) : Ok c F (upd H a o) σ (δ.set i (some r')) := by
  have hm : r.mu = true := by rcases hr with ⟨rfl, _⟩ | ⟨rfl, _⟩ <;> rfl
  obtain ⟨a', o', q1, q2, q3, q4⟩ := ok.mus e hm
  rw [ea] at q1; cases q1
  obtain ⟨u0, hu0, hn0⟩ := obAt_nt q3
  refine ok.mutate e hr ea (Same.refl _) (fun _ _ _ _ _ z => z) q2 (fun b u z _ h => by rw [upd_ne z]; exact h) (fun b u h => ?_) (ok.tb.write hu0 hn0) hob
  have z : b ≠ a := fun z => by rw [z, q2] at h; cases h
  rw [upd_ne z]; exact ok.same b u h
end
structure Stp (M : Gm) (F H F' H' : Hp) (io : Option Addr) : Prop where
  grow : Same F F'
  nofz : ∀ b o, H b = some o → NT o → F b = none → F' b = none
  kept : ∀ b o, H b = some o → NT o → io ≠ some b → H' b = some o
  same : Same F' H'
  tb : Tb M F' H'
def ioAt (M : Gm) (F H : Hp) : Option OB → Addr → Prop
  | none, _ => True
  | some o, a => F a = none ∧ obAt M F H o a
def ioV : Option OB → Addr → List V
  | none, _ => []
  | some _, a => [.ref a]
def resAt (M : Gm) (H F' H' : Hp) : R → V → Prop
  | .imm d, v => rep M F' d v
  | .own o, v => ∃ a, v = .ref a ∧ F' a = none ∧ (∀ u, H a = some u → ¬ NT u) ∧ obAt M F' H' o a
  | .brw _, _ => False
  | .nst tp ps, v => ∃ a vs, v = .ref a ∧ NAt M F' H' tp ps a vs ∧ ∀ b ∈ nOwn tp ps a vs, F' b = none ∧ ∀ u, H b = some u → ¬ NT u
def xAt (M : Gm) (F : Hp) (x : XD) (cls : Value) (d : Option Addr) (H : Hp) : Prop :=
  ∃ C, M.G x.c = some C ∧ cls = .ref C ∧ (x.vs = [] ∨ ∃ (dd : Addr) (fs : List (Str × V)), d = some dd ∧ F dd = some (.xd fs) ∧ fs.map (·.1) = M.nm x.c ∧ reps M F x.vs (fs.map (·.2)))
def spD (M : Gm) (f : Fm) : Sp := fun vs H Q E => ∃ (F : Hp) (io : Option OB) (a : Addr) (ws : List V) (ds : List D),
  vs = ioV io a ++ ws ∧ Same F H ∧ Tb M F H ∧ reps M F ds ws ∧ ioAt M F H io a ∧
  match f io ds with
  | .ok r io' => ∀ v F' H', Stp M F H F' H' (io.map fun _ => a) → resAt M H F' H' r v → ioAt M F' H' io' a → Q v H'
  | .exc x io' => ∀ cls d F' H', Stp M F H F' H' (io.map fun _ => a) → xAt M F' x cls d H' → ioAt M F' H' io' a → E cls d H'
  | .bad => False
section
variable {M : Gm} {c : Cn M} {F F' H H' : Hp} {σ : St} {δ : Sl}
theorem Ok.stp (ok : Ok c F H σ δ) (st : Stp M F H F' H' none) : Ok c F' H' σ δ := by
  have kp : ∀ b o, H b = some o → NT o → H' b = some o := fun b o e n => st.kept b o e n (fun z => by cases z)
  refine ⟨st.same, ok.grow.trans st.grow, fun b e1 e2 => ?_, fun b o e1 e2 => kp b o (ok.kept b o e1 e2) (c.nt b o e1), fun b e1 => ?_, st.tb, ok.len, fun i r e => ?_, ok.dist⟩
  · obtain ⟨u, k1, k2⟩ := ok.hn e1
    exact st.nofz b u k1 k2 (ok.nofz b e1 e2)
  · obtain ⟨o, q1, q2⟩ := ok.ioh b e1
    exact ⟨o, kp b o q1 q2, q2⟩
  · obtain ⟨v, s1, s2⟩ := ok.slot i r e
    refine ⟨v, s1, ?_⟩
    cases r with
    | imm d => exact rep_mono st.grow _ _ s2
    | own o =>
      obtain ⟨b, rfl, k1, k2, k3⟩ := s2
      obtain ⟨u, hu, hn⟩ := obAt_nt k3
      exact ⟨b, rfl, st.nofz b u hu hn k1, k2, obAt_mono st.grow ((kp b u hu hn).trans hu.symm) k3⟩
    | brw o =>
      obtain ⟨b, rfl, k1, k2, k3⟩ := s2
      obtain ⟨u, hu, hn⟩ := obAt_nt k3
      exact ⟨b, rfl, st.nofz b u hu hn k1, k2, obAt_mono st.grow ((kp b u hu hn).trans hu.symm) k3⟩
    | nst tp ps => exact slot_nst st.grow s2
theorem Ok.stpIo (ok : Ok c F H σ δ) {i : Nat} {r r' : R} {a : Addr} {ob ob' : OB} (e : δ[i]? = some (some r)) (hr : r = .own ob ∧ r' = .own ob' ∨ r = .brw ob ∧ r' = .brw ob') (ea : σ[i]? = some (some (.ref a)))
    (st : Stp M F H F' H' (some a)) (h : ioAt M F' H' (some ob') a) : Ok c F' H' σ (δ.set i (some r')) :=
  ok.mutate e hr ea st.grow (fun b o _ e1 n e2 => st.nofz b o e1 n e2) h.1 (fun b o z n q => st.kept b o q n (fun y => z (Option.some.inj y).symm)) st.same st.tb h.2
theorem Ok.resR (ok : Ok c F H σ δ) (st : Stp M F H F' H' none) {r : R} {v : V} (h : resAt M H F' H' r v) : repR c F' H' σ δ r v := by
  cases r with
  | imm d => exact h
  | own o =>
    obtain ⟨a, rfl, h1, h2, h3⟩ := h
    exact ⟨a, rfl, h1, ok.h1 h2, h3, ok.fresh1 h2⟩
  | brw o => exact h
  | nst tp ps =>
    obtain ⟨a, vs, h1, h2, h3⟩ := h
    exact ⟨a, vs, h1, h2, fun b hb => ⟨(h3 b hb).1, ok.h1 (h3 b hb).2, ok.fresh1 (h3 b hb).2⟩⟩
end
end
end TS

namespace TS
open PySem L2
noncomputable section
def prep (M : Gm) (F H : Hp) (d : D) (v : V) : Prop := rep M F d v ∨ ∃ o a, v = V.ref a ∧ d = OB.toD o ∧ obAt M F H o a
def Post {α β : Type} (c : Cn M) (W : WX) (F : Hp) (σ : St) (ρ : Hp → Hp → Sl → α → β → Prop) (r : Res α) (Q : β → Hp → Prop) : Prop := match r with
  | .ok a δ' => ∀ v F' H', Same F F' → Ok c F' H' σ δ' → ρ F' H' δ' a v → Q v H'
  | .exc x δ' => ∀ cls d F' H', Same F F' → Ok c F' H' σ δ' → xAt M F' x cls d H' → W cls d σ H'
  | .bad => False
abbrev ρD (c : Cn M) : Hp → Hp → Sl → D → V → Prop := fun F _ _ d v => rep M F d v
abbrev ρP (c : Cn M) : Hp → Hp → Sl → D → V → Prop := fun F H _ d v => prep M F H d v
abbrev ρR (c : Cn M) (σ : St) : Hp → Hp → Sl → R → V → Prop := fun F H δ r v => repR c F H σ δ r v
abbrev ρA (c : Cn M) : Hp → Hp → Sl → List D → List V → Prop := fun F _ _ ds vs => reps M F ds vs
abbrev ρB (c : Cn M) : Hp → Hp → Sl → List D → List V → Prop := fun F H _ ds vs => Paired (prep M F H) ds vs
abbrev ρT : Hp → Hp → Sl → Bool → Bool → Prop := fun _ _ _ b k => b = k
section
variable {M : Gm} {c : Cn M} {W : WX} {F F1 H H1 : Hp} {σ : St} {δ : Sl}
theorem Post.shift {α β : Type} {ρ : Hp → Hp → Sl → α → β → Prop} {r : Res α} {Q : β → Hp → Prop} (h : Post c W F σ ρ r Q) (g : Same F F1) : Post c W F1 σ ρ r Q := by
  cases r with
  | ok a δ' => exact fun v F' H' s => h v F' H' (g.trans s)
  | exc x δ' => exact fun cls d F' H' s => h cls d F' H' (g.trans s)
  | bad => exact h
theorem Post.bind {α β γ ζ : Type} {m : Res α} {k : α → Sl → Res γ} {ρ : Hp → Hp → Sl → α → β → Prop} {ρ' : Hp → Hp → Sl → γ → ζ → Prop} {Q : ζ → Hp → Prop} {T : β → Hp → Prop} (h : Post c W F σ ρ' (m.bind k) Q)
    (f : ∀ a δ1 v F1 H1, m = .ok a δ1 → Same F F1 → Ok c F1 H1 σ δ1 → ρ F1 H1 δ1 a v → Post c W F1 σ ρ' (k a δ1) Q → T v H1) : Post c W F σ ρ m T := by
  cases m with
  | ok a δ' => exact fun v F' H' s ok r => f a δ' v F' H' rfl s ok r (Post.shift h s)
  | exc x δ' => exact h
  | bad => exact h
theorem Post.ok {α β : Type} {ρ : Hp → Hp → Sl → α → β → Prop} {a : α} {δ : Sl} {Q : β → Hp → Prop} (h : Post c W F σ ρ (.ok a δ) Q) {v : β} (ok : Ok c F H σ δ) (r : ρ F H δ a v) : Q v H := h v F H (Same.refl _) ok r
end
def DE (M : Gm) (W : WX) (X : Cx) (e : Expr) (f : FE) : Prop := ∃ t, PE X e t ∧ ∀ (c : Cn M) F H σ δ Q, Ok c F H σ δ → Post c W F σ (ρR c σ) (f δ) Q → t σ H Q
def DI (M : Gm) (W : WX) (X : Cx) (e : Expr) (f : FD) : Prop := ∃ t, PE X e t ∧ ∀ (c : Cn M) F H σ δ Q, Ok c F H σ δ → Post c W F σ (ρD c) (f δ) Q → t σ H Q
def DP (M : Gm) (W : WX) (X : Cx) (e : Expr) (f : FD) : Prop := ∃ t, PE X e t ∧ ∀ (c : Cn M) F H σ δ Q, Ok c F H σ δ → Post c W F σ (ρP c) (f δ) Q → t σ H Q
def DT (M : Gm) (W : WX) (X : Cx) (e : Expr) (f : FT) : Prop := ∃ t, PT X e t ∧ ∀ (c : Cn M) F H σ δ Q, Ok c F H σ δ → Post c W F σ ρT (f δ) Q → t σ H Q
def DW (M : Gm) (W : WX) (X : Cx) (e : Expr) (f : FT) : Prop := ∃ t, PW X e t ∧ ∀ (c : Cn M) F H σ δ Q, Ok c F H σ δ → Post c W F σ ρT (f δ) Q → t σ H Q
def DA (M : Gm) (W : WX) (X : Cx) (es : List Expr) (f : FA) : Prop := ∃ t, PA X es t ∧ ∀ (c : Cn M) F H σ δ Q, Ok c F H σ δ → Post c W F σ (ρA c) (f δ) Q → t σ H Q
def DB (M : Gm) (W : WX) (X : Cx) (es : List Expr) (f : FA) : Prop := ∃ t, PA X es t ∧ ∀ (c : Cn M) F H σ δ Q, Ok c F H σ δ → Post c W F σ (ρB c) (f δ) Q → t σ H Q
def toE (f : FD) : FE := fun δ => (f δ).bind fun d δ => .ok (.imm d) δ
def frz (f : FE) : FD := fun δ => (f δ).bind fun r δ => match r with
  | .imm d => .ok d δ
  | .own o => .ok o.toD δ
  | .brw _ => .bad
  | .nst _ _ => .bad
section
variable {M : Gm} {c : Cn M} {W : WX} {X : Cx} {e : Expr}
theorem DI.toE {f : FD} (h : DI M W X e f) : DE M W X e (toE f) := by
  obtain ⟨t, p, h⟩ := h
  exact ⟨t, p, fun c F H σ δ Q ok post => h c F H σ δ Q ok (Post.bind post fun d δ1 v F1 H1 _ s ok1 r post => post.ok ok1 r)⟩
theorem DE.frz {f : FE} (h : DE M W X e f) : DI M W X e (frz f) := by
  obtain ⟨t, p, h⟩ := h
  refine ⟨_, pe_lks p, fun c F H σ δ Q ok post => h c F H σ δ (fun v H' => LkS (Q v) H') ok (Post.bind post fun r δ1 v F1 H1 _ s ok1 rr post => ?_)⟩
  cases r with
  | imm d => exact .now (post.ok ok1 rr)
  | own o => exact (ok1.freeze rr).mono fun H2 ⟨F', g, ok', r'⟩ => post v F' H2 g ok' r'
  | brw o => exact post.elim
  | nst _ _ => exact post.elim
theorem DE.pk {f : FE} (h : DE M W X e f) : DP M W X e (TS.frz f) := by
  obtain ⟨t, p, h⟩ := h
  refine ⟨t, p, fun c F H σ δ Q ok post => h c F H σ δ Q ok (Post.bind post fun r δ1 v F1 H1 _ s ok1 rr post => ?_)⟩
  cases r with
  | imm d => exact post.ok ok1 (.inl rr)
  | own o =>
    obtain ⟨a, rfl, h1, h2, h3, h4⟩ := rr
    exact post.ok ok1 (.inr ⟨o, a, rfl, rfl, h3⟩)
  | brw o => exact post.elim
  | nst _ _ => exact post.elim
theorem DI.pk {f : FD} (h : DI M W X e f) : DP M W X e f := by
  obtain ⟨t, p, h⟩ := h
  refine ⟨t, p, fun c F H σ δ Q ok post => h c F H σ δ Q ok ?_⟩
  cases q : f δ with
  | ok d δ1 => rw [q] at post; exact fun v F' H' s ok' r => post v F' H' s ok' (.inl r)
  | exc x δ1 => rw [q] at post; exact post
  | bad => rw [q] at post; exact post
end
def kD (d : D) : FD := fun δ => .ok d δ
def vI (i : Nat) : FD := fun δ => match δ[i]? with
  | some (some (.imm d)) => .ok d δ
  | some (some (.own o)) => .ok o.toD (δ.set i (some (.imm o.toD)))
  | _ => .bad
def vP (i : Nat) : FD := fun δ => match δ[i]? with
  | some (some (.imm d)) => .ok d δ
  | some (some (.own o)) => .ok o.toD δ
  | some (some (.brw o)) => .ok o.toD δ
  | _ => .bad
def vR (i : Nat) : FE := fun δ => match δ[i]? with
  | some (some (.imm d)) => .ok (.imm d) δ
  | some (some (.own o)) => .ok (.own o) (δ.set i none)
  | _ => .bad
section
variable {M : Gm} {c : Cn M} {W : WX} {X : Cx} {e : Expr}
theorem di_c {v : V} {d : D} (h : PE X e (tC v)) (r : ∀ F, rep M F d v) : DI M W X e (kD d) := ⟨_, h, fun c F H σ δ Q ok post => post.ok ok (r F)⟩
theorem di_int {i j pos} : DI M W X (.Constant (.int i) j pos) (kD (.int i)) := di_c pe_int fun F => by unfold rep; rfl
theorem di_bl {b j pos} : DI M W X (.Constant (.bool b) j pos) (kD (.bl b)) := di_c pe_bl fun F => by unfold rep; rfl
theorem di_non {j pos} : DI M W X (.Constant .none j pos) (kD .non) := di_c pe_non fun F => by unfold rep; rfl
theorem di_str {x j pos} : DI M W X (.Constant (.str x) j pos) (kD (.str x)) := di_c pe_str fun F => by unfold rep; rfl
theorem Ok.drop {F H : Hp} {σ : St} {δ : Sl} (ok : Ok c F H σ δ) (i : Nat) : Ok c F H σ (δ.set i none) where
  same := ok.same
  grow := ok.grow
  nofz := ok.nofz
  kept := ok.kept
  ioh := ok.ioh
  tb := ok.tb
  len := by simp [ok.len]
  slot := fun j r e => by
    rcases getElem?_set_some e with ⟨_, e1, _⟩ | ⟨_, e1⟩
    · cases e1
    · exact ok.slot j r e1
  dist := fun j k r1 r2 w hjk e1 e2 m1 m2 s1 s2 => by
    rcases getElem?_set_some e1 with ⟨_, q, _⟩ | ⟨_, q1⟩
    · cases q
    · rcases getElem?_set_some e2 with ⟨_, q, _⟩ | ⟨_, q2⟩
      · cases q
      · exact ok.dist j k r1 r2 w hjk q1 q2 m1 m2 s1 s2
theorem Ok.take {F H : Hp} {σ : St} {δ : Sl} (ok : Ok c F H σ δ) {i : Nat} {o : OB} (e : δ[i]? = some (some (.own o))) : ∃ v, σ[i]? = some (some v) ∧ repR c F H σ (δ.set i none) (.own o) v := by
  obtain ⟨v, e1, a, rfl, h1, h2, h3⟩ := ok.slot i _ e
  refine ⟨.ref a, e1, a, rfl, h1, h2, h3, fun j r q hm z => ?_⟩
  rcases getElem?_set_some q with ⟨_, q, _⟩ | ⟨hn, q⟩
  · cases q
  · exact ok.dist i j _ r _ hn e q rfl hm e1 z
theorem Ok.setSame {F H : Hp} {σ : St} {δ : Sl} (ok : Ok c F H σ δ) {i : Nat} {d : D} {v : V} (e1 : σ[i]? = some (some v)) (r : rep M F d v) : Ok c F H σ (δ.set i (some (.imm d))) := by
  have h := ok.setI i r
  have e : σ.set i (some v) = σ := by
    apply List.ext_getElem?
    intro j
    by_cases hj : i = j
    · subst hj
      rw [List.getElem?_set_self (List.getElem?_eq_some_iff.mp e1).1, e1]
    · rw [List.getElem?_set_ne hj]
  rw [e] at h
  exact h
theorem di_var {i : Nat} (h : PE X e (tVar i)) : DI M W X e (vI i) := by
  refine ⟨_, pe_lks h, fun c F H σ δ Q ok post => ?_⟩
  unfold vI at post
  split at post
  · rename_i d q
    obtain ⟨v, e1, e2⟩ := ok.slot i _ q
    exact ⟨v, e1, .now (post.ok ok e2)⟩
  · rename_i o q
    obtain ⟨v, e1, e2⟩ := ok.take q
    refine ⟨v, e1, ((ok.drop i).freeze e2).mono fun H2 ⟨F', g, ok', r'⟩ => ?_⟩
    have ok2 := ok'.setSame (i := i) e1 r'
    rw [List.set_set] at ok2
    exact post v F' H2 g ok2 r'
  · exact post.elim
theorem dp_var {i : Nat} (h : PE X e (tVar i)) : DP M W X e (vP i) := by
  refine ⟨_, h, fun c F H σ δ Q ok post => ?_⟩
  unfold vP at post
  split at post
  · rename_i d q
    obtain ⟨v, e1, e2⟩ := ok.slot i _ q
    exact ⟨v, e1, post.ok ok (.inl e2)⟩
  · rename_i o q
    obtain ⟨v, e1, a, rfl, h1, h2, h3⟩ := ok.slot i _ q
    exact ⟨_, e1, post.ok ok (.inr ⟨o, a, rfl, rfl, h3⟩)⟩
  · rename_i o q
    obtain ⟨v, e1, a, rfl, h1, h2, h3⟩ := ok.slot i _ q
    exact ⟨_, e1, post.ok ok (.inr ⟨o, a, rfl, rfl, h3⟩)⟩
  · exact post.elim
theorem de_var {i : Nat} (h : PE X e (tVar i)) : DE M W X e (vR i) := by
  refine ⟨_, h, fun c F H σ δ Q ok post => ?_⟩
  unfold vR at post
  split at post
  · rename_i d q
    obtain ⟨v, e1, e2⟩ := ok.slot i _ q
    exact ⟨v, e1, post.ok ok e2⟩
  · rename_i o q
    obtain ⟨v, e1, e2⟩ := ok.take q
    exact ⟨v, e1, post.ok (ok.drop i) e2⟩
  · exact post.elim
end
section
variable {M : Gm} {c : Cn M} {F H : Hp} {v : V}
theorem prep_non (h : prep M F H .non v) : v = .non := by
  rcases h with h | ⟨o, a, _, e, _⟩
  · unfold rep at h; exact h
  · cases o <;> cases e
theorem prep_bl {b : Bool} (h : prep M F H (.bl b) v) : v = .bl b := by
  rcases h with h | ⟨o, a, _, e, _⟩
  · unfold rep at h; exact h
  · cases o <;> cases e
theorem prep_int {i : Int} (h : prep M F H (.int i) v) : v = .int i := by
  rcases h with h | ⟨o, a, _, e, _⟩
  · unfold rep at h; exact h
  · cases o <;> cases e
theorem prep_str {x : Str} (h : prep M F H (.str x) v) : v = .str x := by
  rcases h with h | ⟨o, a, _, e, _⟩
  · unfold rep at h; exact h
  · cases o <;> cases e
theorem prep_lst {ds : List D} (s : Same F H) (h : prep M F H (.lst ds) v) : ∃ a vs, v = .ref a ∧ H a = some (.lst vs) ∧ reps M F ds vs := by
  rcases h with h | ⟨o, a, ev, e, h⟩
  · unfold rep at h
    obtain ⟨a, vs, h1, h2, h3⟩ := h
    exact ⟨a, vs, h1, s _ _ h2, h3⟩
  · cases o <;> cases e
    obtain ⟨vs, h1, h2⟩ := h
    exact ⟨a, vs, ev, h1, h2⟩
theorem prep_tup {ds : List D} (s : Same F H) (h : prep M F H (.tup ds) v) : ∃ a vs, v = .ref a ∧ SqT M.K H a vs ∧ reps M F ds vs := by
  rcases h with h | ⟨o, a, ev, e, h⟩
  · unfold rep at h
    obtain ⟨a, vs, h1, h2, h3⟩ := h
    exact ⟨a, vs, h1, SqT.of (s _ _ h2), h3⟩
  · cases o <;> cases e
theorem reps_kt {M : Gm} {F : Hp} : ∀ ns : List Int, reps M F (ns.map D.int) (ns.map V.int)
  | [] => reps_nil
  | n :: ns => reps_cons (by unfold rep; rfl) (reps_kt ns)
theorem ktup_sq {K : PySem.W.Frag} {H : Hp} {a : Addr} {ns : List Int} (h : KTup K a ns) : SqT K H a (ns.map V.int) := by
  obtain ⟨o, its, n, h1, h2, h3, h4, h5, _⟩ := h
  exact .inr ⟨o, its, n, h1, h2, h3, by rw [sizeLine_eq]; omega, h5⟩
theorem itup_sq {K : PySem.W.Frag} {F H : Hp} {a : Addr} {ns : List Int} (s : Same F H) (h : ITup K F a ns) : SqT K H a (ns.map V.int) := by
  rcases h with h | ⟨o, h, _⟩
  · exact ktup_sq h
  · exact .inl (.inr ⟨o, s _ _ h⟩)
theorem prep_ktp {ns : List Int} (s : Same F H) (h : prep M F H (.ktp ns) v) : ∃ a, v = .ref a ∧ SqT M.K H a (ns.map V.int) ∧ reps M F (ns.map D.int) (ns.map V.int) := by
  rcases h with h | ⟨o, a, ev, e, h⟩
  · unfold rep at h
    obtain ⟨a, h1, h2⟩ := h
    exact ⟨a, h1, itup_sq s h2, reps_kt ns⟩
  · cases o <;> cases e
theorem prep_scr {ds : List D} (s : Same F H) (h : prep M F H (.scr ds) v) : ∃ a vs, v = .ref a ∧ SqL M.K H a vs ∧ reps M F ds vs := by
  rcases h with h | ⟨o, a, ev, e, h⟩
  · unfold rep at h
    obtain ⟨a, vs, h1, h2, h3⟩ := h
    exact ⟨a, vs, h1, s.seq h2, h3⟩
  · cases o <;> cases e
theorem prep_dK {ks : List Key} {ds : List D} (s : Same F H) (h : prep M F H (.dK ks ds) v) : ∃ (a : Addr) (kvs : List (Key × V)), v = .ref a ∧ Rd H a (.dK kvs) ∧ kvs.map (·.1) = ks ∧ reps M F ds (kvs.map (·.2)) := by
  rcases h with h | ⟨o, a, ev, e, h⟩
  · unfold rep at h
    obtain ⟨a, od, vs, h1, h2, h3, h4⟩ := h
    exact ⟨a, vs, h1, .inr ⟨od, s _ _ h2⟩, h3, h4⟩
  · cases o <;> cases e
    obtain ⟨vs, h1, h2, h3⟩ := h
    exact ⟨a, vs, ev, .inl h1, h2, h3⟩
theorem prep_dT {ks : List (List Key)} {ds : List D} (s : Same F H) (h : prep M F H (.dT ks ds) v) : ∃ (a : Addr) (kvs : List (List Key × V)), v = .ref a ∧ Rd H a (.dT kvs) ∧ kvs.map (·.1) = ks ∧ reps M F ds (kvs.map (·.2)) := by
  rcases h with h | ⟨o, a, ev, e, h⟩
  · unfold rep at h
    obtain ⟨a, od, vs, h1, h2, h3, h4⟩ := h
    exact ⟨a, vs, h1, .inr ⟨od, s _ _ h2⟩, h3, h4⟩
  · cases o <;> cases e
    obtain ⟨vs, h1, h2, h3⟩ := h
    exact ⟨a, vs, ev, .inl h1, h2, h3⟩
theorem prep_obj {n : Nat} {ds : List D} (s : Same F H) (h : prep M F H (.obj n ds) v) : ∃ (a C dx : Addr) (fs : List (Str × V)), v = .ref a ∧ M.G n = some C ∧ H a = some (.ins C dx fs) ∧ fs.map (·.1) = (M.nm n).take ds.length ∧ reps M F ds (fs.map (·.2)) := by
  rcases h with h | ⟨o, a, ev, e, h⟩
  · unfold rep at h
    obtain ⟨a, C, dx, fs, h1, h2, h3, h4, h5⟩ := h
    exact ⟨a, C, dx, fs, h1, h2, s _ _ h3, h4, h5⟩
  · cases o <;> cases e
    obtain ⟨C, dx, fs, h1, h2, h3, h4⟩ := h
    exact ⟨a, C, dx, fs, ev, h1, h2, h3, h4⟩
end
@[simp] theorem rep_int' {M : Gm} {F : Hp} (i : Int) : rep M F (.int i) (.int i) := by unfold rep; rfl
@[simp] theorem rep_bl' {M : Gm} {F : Hp} (b : Bool) : rep M F (.bl b) (.bl b) := by unfold rep; rfl
@[simp] theorem rep_str' {M : Gm} {F : Hp} (x : Str) : rep M F (.str x) (.str x) := by unfold rep; rfl
@[simp] theorem rep_non' {M : Gm} {F : Hp} : rep M F .non .non := by unfold rep; rfl
section
variable {M : Gm} {c : Cn M} {F H : Hp} {σ : St} {δ : Sl}
theorem rr_int {i : Int} : repR c F H σ δ (.imm (.int i)) (.int i) := rep_int' (M := M) (F := F) i
theorem rr_bl {b : Bool} : repR c F H σ δ (.imm (.bl b)) (.bl b) := rep_bl' (M := M) (F := F) b
theorem rr_str {x : Str} : repR c F H σ δ (.imm (.str x)) (.str x) := rep_str' (M := M) (F := F) x
end
def OpD (M : Gm) (r : R2) (g : D → D → Option R) : Prop := ∀ (c : Cn M) (F H : Hp) (σ : St) (δ : Sl) (x y : V) (dx dy : D) (z : R) (Q : VK), Ok c F H σ δ → prep M F H dx x → prep M F H dy y → g dx dy = some z →
  (∀ v F' H', Same F F' → Ok c F' H' σ δ → repR c F' H' σ δ z v → Q v H') → r x y H Q
def gOr (g g' : D → D → Option R) : D → D → Option R := fun x y => match g x y with
  | some z => some z
  | none => g' x y
theorem OpD.or {M : Gm} {r r' : R2} {g g' : D → D → Option R} (h : OpD M r g) (h' : OpD M r' g') : OpD M (fun x y H Q => r x y H Q ∨ r' x y H Q) (gOr g g') := by
  intro c F H σ δ x y dx dy z Q ok px py e q
  unfold gOr at e
  cases e1 : g dx dy with
  | some w =>
    rw [e1] at e
    cases e
    exact .inl (h c F H σ δ x y dx dy _ Q ok px py e1 q)
  | none =>
    rw [e1] at e
    exact .inr (h' c F H σ δ x y dx dy z Q ok px py e q)
def gI (C : Int → Int → Bool) (g : Int → Int → Int) : D → D → Option R
  | .int i, .int j => if C i j then some (.imm (.int (g i j))) else none
  | _, _ => none
def gB (g : Int → Int → Bool) : D → D → Option R
  | .int i, .int j => some (.imm (.bl (g i j)))
  | _, _ => none
theorem od_I {M : Gm} {C : Int → Int → Prop} {Cb : Int → Int → Bool} {g : Int → Int → Int} (hC : ∀ i j, Cb i j = true → C i j) : OpD M (rI C fun i j => .int (g i j)) (gI Cb g) := by
  intro c F H σ δ x y dx dy z Q ok px py e q
  unfold gI at e
  split at e
  · rename_i i j
    split at e
    · rename_i hc
      cases e
      exact ⟨i, j, prep_int px, prep_int py, hC i j hc, q _ F H (Same.refl _) ok rr_int⟩
    · cases e
  · cases e
theorem od_I0 {M : Gm} {g : Int → Int → Int} : OpD M (rI0 fun i j => .int (g i j)) (gI (fun _ _ => true) g) := by
  intro c F H σ δ x y dx dy z Q ok px py e q
  unfold gI at e
  split at e
  · rename_i i j
    cases e
    exact ⟨i, j, prep_int px, prep_int py, q _ F H (Same.refl _) ok rr_int⟩
  · cases e
theorem od_B {M : Gm} {g : Int → Int → Bool} : OpD M (rI0 fun i j => .bl (g i j)) (gB g) := by
  intro c F H σ δ x y dx dy z Q ok px py e q
  unfold gB at e
  split at e
  · rename_i i j
    cases e
    exact ⟨i, j, prep_int px, prep_int py, q _ F H (Same.refl _) ok rr_bl⟩
  · cases e
def fBin (g : D → D → Option R) (fa fb : FD) : FE := fun δ => (fa δ).bind fun x δ1 => (fb δ1).bind fun y δ2 => match g x y with
  | some z => .ok z δ2
  | none => .bad
def there (δ : Sl) (i : Nat) : Bool := match δ[i]? with
  | some (some _) => true
  | _ => false
def fBinV (g : D → D → Option R) (i : Nat) (fb : FD) : FE := fun δ => if there δ i then (fb δ).bind fun y δ1 => (vP i δ1).bind fun x δ2 => match g x y with
  | some z => .ok z δ2
  | none => .bad
  else .bad
section
variable {M : Gm} {c : Cn M} {W : WX} {X : Cx} {a b : Expr} {pos : Pos} {fa fb : FD} {r : R2} {g : D → D → Option R}
theorem bin_of (hd : OpD M r g) {F H : Hp} {σ : St} {δ : Sl} {x y : V} {dx dy : D} {Q : VK} (ok : Ok c F H σ δ) (px : prep M F H dx x) (py : prep M F H dy y)
    (post : Post c W F σ (ρR c σ) (match g dx dy with | some z => .ok z δ | none => .bad) Q) : r x y H Q := by
  cases e : g dx dy with
  | none => rw [e] at post; exact post.elim
  | some z => rw [e] at post; exact hd c F H σ δ x y dx dy z Q ok px py e post
theorem d_op {e : Expr} (mk : ∀ {ta tb : TE}, PE X a ta → PE X b tb → PE X e (tOp r ta tb)) (hd : OpD M r g) (ha : DI M W X a fa) (hb : DP M W X b fb) : DE M W X e (fBin g fa fb) := by
  obtain ⟨ta, pa, ha⟩ := ha
  obtain ⟨tb, pb, hb⟩ := hb
  refine ⟨_, mk pa pb, fun c F H σ δ Q ok post => ha c F H σ δ _ ok (Post.bind post fun dx δ1 x F1 H1 _ s1 ok1 rx post => hb c F1 H1 σ δ1 _ ok1 (Post.bind post fun dy δ2 y F2 H2 _ s2 ok2 ry post => ?_))⟩
  exact bin_of hd ok2 (.inl (rep_mono s2 _ _ rx)) ry post
theorem vP_run {i : Nat} {F H : Hp} {σ : St} {δ : Sl} {α β : Type} {k : D → Sl → Res α} {ρ : Hp → Hp → Sl → α → β → Prop} {Q : β → Hp → Prop} {P : Prop} (ok : Ok c F H σ δ) {v : V} (e1 : σ[i]? = some (some v))
    (post : Post c W F σ ρ ((vP i δ).bind k) Q) (h : ∀ d, vP i δ = .ok d δ → prep M F H d v → Post c W F σ ρ (k d δ) Q → P) : P := by
  unfold vP at post h
  split at post
  · rename_i d q
    obtain ⟨v', e2, e3⟩ := ok.slot i _ q
    rw [e1] at e2; cases e2
    exact h d (by rw [q]) (.inl e3) post
  · rename_i o q
    obtain ⟨v', e2, a, rfl, h1, h2, h3⟩ := ok.slot i _ q
    rw [e1] at e2; cases e2
    exact h o.toD (by rw [q]) (.inr ⟨o, a, rfl, rfl, h3⟩) post
  · rename_i o q
    obtain ⟨v', e2, a, rfl, h1, h2, h3⟩ := ok.slot i _ q
    rw [e1] at e2; cases e2
    exact h o.toD (by rw [q]) (.inr ⟨o, a, rfl, rfl, h3⟩) post
  · exact post.elim
theorem there_v {F H : Hp} {σ : St} {δ : Sl} {i : Nat} (ok : Ok c F H σ δ) (h : there δ i = true) : ∃ v, σ[i]? = some (some v) := by
  unfold there at h
  split at h
  · rename_i r q
    obtain ⟨v, e, _⟩ := ok.slot i r q
    exact ⟨v, e⟩
  · cases h
theorem d_opV {e : Expr} {i : Nat} (mk : ∀ {ta tb : TE}, PE X a ta → PE X b tb → PE X e (tOp r ta tb)) (hd : OpD M r g) (ha : PE X a (tVar i)) (hb : DP M W X b fb) : DE M W X e (fBinV g i fb) := by
  obtain ⟨tb, pb, hb⟩ := hb
  refine ⟨_, mk ha pb, fun c F H σ δ Q ok post => ?_⟩
  unfold fBinV at post
  by_cases ht : there δ i = true
  · rw [if_pos ht] at post
    obtain ⟨v, e1⟩ := there_v ok ht
    refine ⟨v, e1, hb c F H σ δ _ ok (Post.bind post fun dy δ2 y F2 H2 _ s2 ok2 ry post => ?_)⟩
    exact vP_run ok2 e1 post fun dx _ px post => bin_of hd ok2 px ry post
  · rw [if_neg ht] at post
    exact post.elim
end
def CMulB (i j : Int) : Bool := gd (i.natAbs.log2 + j.natAbs.log2 < 1000000)
def CDivB (i j : Int) : Bool := gd (0 < j ∧ j.natAbs.log2 < 9000)
def CDivNB (i j : Int) : Bool := gd (j < 0 ∧ j.natAbs.log2 < 9000)
def CModB (i j : Int) : Bool := decide (0 < j)
def CPowB (i j : Int) : Bool := gd (0 ≤ j ∧ j ≤ 1000000 ∧ i.natAbs < 18446744073709551616)
section
variable {M : Gm} {c : Cn M} {W : WX} {X : Cx}
theorem od_sub : OpD M (rI0 fun i j => .int (i - j)) (gI (fun _ _ => true) fun i j => i - j) := od_I0
theorem od_mul : OpD M (rI CMulW fun i j => .int (i * j)) (gI CMulB fun i j => i * j) := od_I fun i j h => of_gd (p := (i.natAbs.log2 + j.natAbs.log2 < 1000000)) h
theorem od_fdiv : OpD M (rI CDivW fun i j => .int (i / j)) (gI CDivB fun i j => i / j) := od_I fun i j h => of_gd (p := (0 < j ∧ j.natAbs.log2 < 9000)) h
theorem od_fdivN : OpD M (rI (fun _ j => j < 0 ∧ j.natAbs.log2 < 9000) fun i j => .int (i.fdiv j)) (gI CDivNB fun i j => i.fdiv j) := od_I fun i j h => of_gd (p := (j < 0 ∧ j.natAbs.log2 < 9000)) h
theorem od_mod : OpD M (rI (fun _ j => 0 < j) fun i j => .int (i % j)) (gI CModB fun i j => i % j) := od_I fun i j h => of_decide_eq_true h
theorem od_pow : OpD M (rI CPow fun i j => .int (i ^ j.toNat)) (gI CPowB fun i j => i ^ j.toNat) := od_I fun i j h => by
  obtain ⟨h1, h2, h3⟩ := of_gd h
  exact ⟨h1, h2, by have e : (2:Nat) ^ 64 = 18446744073709551616 := by decide
                    rw [e]; exact h3⟩
end
def gCat : D → D → Option R
  | .lst xs, .lst ys => if xs.length + ys.length ≤ 16777216 then some (.own (.l (xs ++ ys))) else none
  | _, _ => none
def gRep : D → D → Option R
  | .lst xs, .int k => if gd (0 ≤ k ∧ k < 9223372036854775808 ∧ xs.length * k.toNat ≤ 16777216) then some (.own (.l ((List.replicate k.toNat xs).flatten))) else none
  | _, _ => none
def gCatS : D → D → Option R
  | .str x, .str y => if x.length + y.length ≤ 16777216 then some (.imm (.str (x ++ y))) else none
  | _, _ => none
theorem reps_rep {M : Gm} {F : Hp} {ds : List D} {vs : List V} (h : reps M F ds vs) : ∀ n : Nat, reps M F (List.replicate n ds).flatten (List.replicate n vs).flatten
  | 0 => by simp [reps]
  | n + 1 => by
    rw [List.replicate_succ, List.replicate_succ, List.flatten_cons, List.flatten_cons]
    exact reps_append h (reps_rep h n)
section
variable {M : Gm} {c : Cn M} {W : WX} {X : Cx}
theorem new_list {F H : Hp} {σ : St} {δ : Sl} (ok : Ok c F H σ δ) {p : Addr} (hp : H p = none) {ds : List D} {vs : List V} (r : reps M F ds vs) : Ok c F (upd H p (.lst vs)) σ δ ∧ repR c F (upd H p (.lst vs)) σ δ (.own (.l ds)) (.ref p) :=
  ⟨ok.alloc hp, ok.made hp ⟨vs, upd_same, r⟩⟩
theorem od_cat : OpD M rCat gCat := by
  intro c F H σ δ x y dx dy z Q ok px py e q
  unfold gCat at e
  split at e
  · rename_i xs ys
    split at e
    · rename_i hl
      cases e
      obtain ⟨a, vs, h1, h2, h3⟩ := prep_lst ok.same px
      obtain ⟨b, ws, k1, k2, k3⟩ := prep_lst ok.same py
      refine ⟨a, b, vs, ws, h1, k1, h2, k2, ?_, fun p hp => ?_⟩
      · rw [reps_length h3, reps_length k3, sizeLine_eq]; exact hl
      · obtain ⟨o1, o2⟩ := new_list ok hp (reps_append h3 k3)
        exact q _ F _ (Same.refl _) o1 o2
    · cases e
  · cases e
theorem od_rep : OpD M rRep gRep := by
  intro c F H σ δ x y dx dy z Q ok px py e q
  unfold gRep at e
  split at e
  · rename_i xs k
    split at e
    · rename_i hl
      cases e
      obtain ⟨h0, hk, hz⟩ := of_gd hl
      obtain ⟨a, vs, h1, h2, h3⟩ := prep_lst ok.same px
      refine ⟨a, k, vs, h1, prep_int py, h2, by omega, by omega, ?_, fun p hp => ?_⟩
      · rw [reps_length h3, sizeLine_eq]; exact hz
      · obtain ⟨o1, o2⟩ := new_list ok hp (reps_rep h3 k.toNat)
        exact q _ F _ (Same.refl _) o1 o2
    · cases e
  · cases e
theorem od_catS : OpD M (fun x y H Q => ∃ i j, x = .str i ∧ y = .str j ∧ i.length + j.length ≤ sizeLine ∧ Q (.str (i ++ j)) H) gCatS := by
  intro c F H σ δ x y dx dy z Q ok px py e q
  unfold gCatS at e
  split at e
  · rename_i i j
    split at e
    · rename_i hl
      cases e
      exact ⟨i, j, prep_str px, prep_str py, by rw [sizeLine_eq]; exact hl, q _ F H (Same.refl _) ok rr_str⟩
    · cases e
  · cases e
end
end
end TS

namespace TS
open PySem L2
noncomputable section
mutual
def toP : D → Option PyData
  | .non => some .none
  | .bl b => some (.bool b)
  | .int i => some (.int i)
  | .str x => some (.str x)
  | .lst ds => (toPs ds).map .list
  | .tup ds => (toPs ds).map .tuple
  | .ktp ns => some (.tuple (ns.map PyData.int))
  | _ => none
def toPs : List D → Option (List PyData)
  | [] => some []
  | d :: ds => match toP d, toPs ds with
    | some p, some ps => some (p :: ps)
    | _, _ => none
end
section
variable {M : Gm} {F H : Hp}
mutual
theorem rep_dp (s : Same F H) : ∀ (d : D) (v : V) (p : PyData), rep M F d v → toP d = some p → Dp M.K H v p
  | .non, v, p, h, e => by unfold rep at h; unfold toP at e; cases e; subst h; exact .non
  | .bl b, v, p, h, e => by unfold rep at h; unfold toP at e; cases e; subst h; exact .bl b
  | .int b, v, p, h, e => by unfold rep at h; unfold toP at e; cases e; subst h; exact .int b
  | .str b, v, p, h, e => by unfold rep at h; unfold toP at e; cases e; subst h; exact .str b
  | .lst ds, v, p, h, e => by
    unfold rep at h
    unfold toP at e
    obtain ⟨ps, e1, rfl⟩ := Option.map_eq_some_iff.mp e
    obtain ⟨a, vs, rfl, h2, h3⟩ := h
    exact .lst (SqL.of (s _ _ h2)) (reps_dp s ds vs ps h3 e1)
  | .tup ds, v, p, h, e => by
    unfold rep at h
    unfold toP at e
    obtain ⟨ps, e1, rfl⟩ := Option.map_eq_some_iff.mp e
    obtain ⟨a, vs, rfl, h2, h3⟩ := h
    exact .tup (SqT.of (s _ _ h2)) (reps_dp s ds vs ps h3 e1)
  | .scr ds, v, p, h, e => by unfold toP at e; cases e
  | .dK ks ds, v, p, h, e => by unfold toP at e; cases e
  | .dT ks ds, v, p, h, e => by unfold toP at e; cases e
  | .obj c ds, v, p, h, e => by unfold toP at e; cases e
  | .cls c, v, p, h, e => by unfold toP at e; cases e
  | .lam, v, p, h, e => by unfold toP at e; cases e
  | .ktp ns, v, p, h, e => by
    unfold rep at h
    unfold toP at e
    cases e
    obtain ⟨a, rfl, h2⟩ := h
    refine .tup (itup_sq s h2) ?_
    clear h2
    induction ns with
    | nil => exact .nil
    | cons i ns ih => exact .cons (.int i) ih
theorem reps_dp (s : Same F H) : ∀ (ds : List D) (vs : List V) (ps : List PyData), reps M F ds vs → toPs ds = some ps → DpAll M.K H vs ps
  | [], vs, ps, h, e => by unfold reps at h; unfold toPs at e; cases e; subst h; exact .nil
  | d :: ds, vs, ps, h, e => by
    unfold reps at h
    obtain ⟨v, r, rfl, h2, h3⟩ := h
    unfold toPs at e
    split at e
    · rename_i p qs e1 e2
      cases e
      exact .cons (rep_dp s d v p h2 e1) (reps_dp s ds r qs h3 e2)
    · cases e
end
end
theorem prep_dp {M : Gm} {F H : Hp} {d : D} {v : V} {p : PyData} (s : Same F H) (h : prep M F H d v) (e : toP d = some p) : Dp M.K H v p := by
  rcases h with h | ⟨o, a, rfl, rfl, h⟩
  · exact rep_dp s d v p h e
  · cases o with
    | l ds =>
      obtain ⟨vs, h1, h2⟩ := h
      unfold OB.toD toP at e
      obtain ⟨ps, e1, rfl⟩ := Option.map_eq_some_iff.mp e
      exact .lst (SqL.of h1) (reps_dp s ds vs ps h2 e1)
    | dK ks ds => unfold OB.toD toP at e; cases e
    | dT ks ds => unfold OB.toD toP at e; cases e
    | o n ds => unfold OB.toD toP at e; cases e
def gEq : D → D → Option R := fun x y => match toP x, toP y with
  | some p, some q => if SeqAt.shaped p && SeqAt.shaped q then some (.imm (.bl (PyData.eqv p q))) else none
  | _, _ => none
def gNe : D → D → Option R := fun x y => match toP x, toP y with
  | some p, some q => if SeqAt.shaped p && SeqAt.shaped q then some (.imm (.bl (!PyData.eqv p q))) else none
  | _, _ => none
theorem od_eq {M : Gm} : OpD M (rEqD M.K) gEq := by
  intro c F H σ δ x y dx dy z Q ok px py e q
  unfold gEq at e
  split at e
  · rename_i p p' e1 e2
    split at e
    · rename_i hs
      cases e
      rw [Bool.and_eq_true] at hs
      exact ⟨p, p', prep_dp ok.same px e1, prep_dp ok.same py e2, hs.1, hs.2, q _ F H (Same.refl _) ok rr_bl⟩
    · cases e
  · cases e
theorem od_ne {M : Gm} : OpD M (rNeD M.K) gNe := by
  intro c F H σ δ x y dx dy z Q ok px py e q
  unfold gNe at e
  split at e
  · rename_i p p' e1 e2
    split at e
    · rename_i hs
      cases e
      rw [Bool.and_eq_true] at hs
      exact ⟨p, p', prep_dp ok.same px e1, prep_dp ok.same py e2, hs.1, hs.2, q _ F H (Same.refl _) ok rr_bl⟩
    · cases e
  · cases e
def gNotN : D → D → Option R
  | .non, .non => some (.imm (.bl false))
  | _, .non => some (.imm (.bl true))
  | _, _ => none
theorem prep_ne_non {M : Gm} {F H : Hp} {d : D} {v : V} (h : prep M F H d v) (hd : d ≠ .non) : v ≠ .non := by
  rcases h with h | ⟨o, a, rfl, _, _⟩
  · cases d <;> unfold rep at h <;> first | exact absurd rfl hd | (rintro rfl; cases h; done) | (rintro rfl; obtain ⟨_, _, h, _⟩ := h; cases h; done) | (rintro rfl; obtain ⟨_, _, _, _, h, _⟩ := h; cases h; done) | (rintro rfl; obtain ⟨_, _, _, h, _⟩ := h; cases h; done) | (rintro rfl; obtain ⟨_, _, h⟩ := h; cases h; done) | (rintro rfl; obtain ⟨_, h, _⟩ := h; cases h; done) | (rintro rfl; obtain ⟨_, h⟩ := M.lm.rf h; cases h; done)
  · intro h; cases h
theorem od_notN {M : Gm} : OpD M (fun x y H Q => y = .non ∧ Q (.bl (!decide (x = .non))) H) gNotN := by
  intro c F H σ δ x y dx dy z Q ok px py e q
  unfold gNotN at e
  split at e
  · cases e
    have h1 := prep_non px
    subst h1
    exact ⟨prep_non py, q _ F H (Same.refl _) ok rr_bl⟩
  · rename_i hn
    cases e
    refine ⟨prep_non py, ?_⟩
    rw [decide_eq_false (prep_ne_non px hn)]
    exact q _ F H (Same.refl _) ok rr_bl
  · cases e
def keyOf : D → Option Key
  | .int i => some (.inl i)
  | .str x => some (.inr x)
  | _ => none
def keysOf : List D → Option (List Key)
  | [] => some []
  | d :: ds => match keyOf d, keysOf ds with
    | some k, some ks => some (k :: ks)
    | _, _ => none
def lookD {κ : Type} [DecidableEq κ] : List κ → List D → κ → Option D
  | k' :: ks, d :: ds, k => if k' = k then some d else lookD ks ds k
  | _, _, _ => none
theorem keyOf_v {M : Gm} {F H : Hp} {d : D} {v : V} {k : Key} (h : prep M F H d v) (e : keyOf d = some k) : v = kV k := by
  cases d <;> simp [keyOf] at e
  · subst e; exact prep_int h
  · subst e; exact prep_str h
theorem lookD_val {M : Gm} {F : Hp} {κ : Type} [DecidableEq κ] : ∀ {kvs : List (κ × V)} {ds : List D} (k : κ), reps M F ds (kvs.map (·.2)) → (∀ d, lookD (kvs.map (·.1)) ds k = some d → ∃ v, valV kvs k = some v ∧ rep M F d v) ∧ (lookD (kvs.map (·.1)) ds k = none → valV kvs k = none)
  | [], ds, k, h => by
    constructor
    · intro d e; simp [lookD] at e
    · intro _; rfl
  | p :: kvs, ds, k, h => by
    cases ds with
    | nil => unfold reps at h; cases h
    | cons d ds =>
      rw [List.map_cons, reps_cons_iff] at h
      obtain ⟨h1, h2⟩ := h
      have ih := lookD_val k h2
      unfold valV at ih ⊢
      by_cases e : p.1 = k
      · constructor
        · intro d' e'
          simp only [List.map_cons, lookD, if_pos e] at e'
          cases e'
          exact ⟨p.2, by simp [List.find?_cons, e], h1⟩
        · intro e'
          simp only [List.map_cons, lookD, if_pos e] at e'
          cases e'
      · constructor
        · intro d' e'
          simp only [List.map_cons, lookD, if_neg e] at e'
          obtain ⟨v, q1, q2⟩ := ih.1 d' e'
          exact ⟨v, by simp only [List.find?_cons, decide_eq_false e]; exact q1, q2⟩
        · intro e'
          simp only [List.map_cons, lookD, if_neg e] at e'
          simp only [List.find?_cons, decide_eq_false e]
          exact ih.2 e'
theorem atI_reps {M : Gm} {F : Hp} {ds : List D} {vs : List V} {i : Int} {d : D} (h : reps M F ds vs) (e : atI ds i = some d) : ∃ v, atI vs i = some v ∧ rep M F d v := by
  unfold atI at e ⊢
  rw [reps_length h]
  cases q : ixN ds.length i with
  | none => rw [q] at e; cases e
  | some j =>
    rw [q] at e
    exact reps_get h e
theorem keysOf_v {M : Gm} {F : Hp} : ∀ {ds : List D} {vs : List V} {ks : List Key}, reps M F ds vs → keysOf ds = some ks → vs = ks.map kV
  | [], vs, ks, h, e => by unfold reps at h; unfold keysOf at e; cases e; subst h; rfl
  | d :: ds, vs, ks, h, e => by
    unfold reps at h
    obtain ⟨v, r, rfl, h2, h3⟩ := h
    unfold keysOf at e
    split at e
    · rename_i k ks' e1 e2
      cases e
      rw [keyOf_v (M := M) (F := F) (H := F) (.inl h2) e1, keysOf_v h3 e2]; rfl
    · cases e
theorem prep_tupK {M : Gm} {F H : Hp} {v : V} {ds : List D} {ks : List Key} (s : Same F H) (h : prep M F H (.tup ds) v) (e : keysOf ds = some ks) : ∃ b, v = .ref b ∧ H b = some (.tup (ks.map kV)) := by
  rcases h with h | ⟨o, a, ev, e, h⟩
  · unfold rep at h
    obtain ⟨a, vs, h1, h2, h3⟩ := h
    have := keysOf_v h3 e
    subst this
    exact ⟨a, h1, s _ _ h2⟩
  · cases o <;> cases e
def gIx : D → D → Option R
  | .dT ks ds, .tup kds => (keysOf kds).bind fun k => (lookD ks ds k).map .imm
  | .lst xs, .int i => (atI xs i).map .imm
  | .tup xs, .int i => (atI xs i).map .imm
  | .ktp ns, .int i => (atI (ns.map D.int) i).map .imm
  | .scr xs, .int i => (atI xs i).map .imm
  | .str z, .int i => if z.length ≤ 16777216 then (atI z.cps.toList i).map (fun c => .imm (.str ⟨#[c]⟩)) else none
  | .dK ks ds, k => (keyOf k).bind fun k => (lookD ks ds k).map .imm
  | _, _ => none
def rIxD : R2 := fun x y H Q => ∃ a v, x = .ref a ∧ DGet H a y (some v) ∧ Q v H
theorem ix_dict {X : Cx} (hu : X.A.units + 1 < cLine) : IxR X rIxD := by
  intro value slice pins s σ H x y v u Q I rx ry h hs
  obtain ⟨a, z, rfl, g, q⟩ := h
  cases rx
  exact PyProof.Rows.tail_any (dict_typeIs I g) PySem.F.slot_dict_getitem.lookup (d_getItem hu I g ry fun w' s3 I3 rw' => ⟨z, H, I3, rw', q⟩) hs
def rIxAll (K : PySem.W.Frag) : R2 := fun x y H Q => rIx K x y H Q ∨ rIxD x y H Q
theorem ix_all {X : Cx} {M : Gm} (hK : X.K = M.K) (hu : X.A.units + 1 < cLine) : IxR X (rIxAll M.K) := by rw [← hK]; exact ix_seq.or (ix_dict hu)
theorem od_ix {M : Gm} : OpD M (rIxAll M.K) gIx := by
  intro c F H σ δ x y dx dy z Q ok px py e q
  unfold gIx at e
  split at e
  · rename_i ks ds kds
    obtain ⟨kk, e1, e2⟩ := Option.bind_eq_some_iff.mp e
    obtain ⟨d, e3, rfl⟩ := Option.map_eq_some_iff.mp e2
    obtain ⟨a, kvs, rfl, h2, h3, h4⟩ := prep_dT ok.same px
    obtain ⟨b, rfl, hb⟩ := prep_tupK ok.same py e1
    subst h3
    obtain ⟨v, k1, k2⟩ := (lookD_val kk h4).1 d e3
    refine .inr ⟨a, v, rfl, ?_, q _ F H (Same.refl _) ok k2⟩
    rw [← k1]
    exact .inr ⟨_, _, _, h2, rfl, hb, rfl⟩
  · rename_i xs i
    obtain ⟨d, e1, rfl⟩ := Option.map_eq_some_iff.mp e
    obtain ⟨a, vs, rfl, h2, h3⟩ := prep_lst ok.same px
    obtain ⟨v, k1, k2⟩ := atI_reps h3 e1
    exact .inl (.inl ⟨a, vs, i, v, rfl, prep_int py, SqL.of h2, k1, q _ F H (Same.refl _) ok k2⟩)
  · rename_i xs i
    obtain ⟨d, e1, rfl⟩ := Option.map_eq_some_iff.mp e
    obtain ⟨a, vs, rfl, h2, h3⟩ := prep_tup ok.same px
    obtain ⟨v, k1, k2⟩ := atI_reps h3 e1
    exact .inl (.inr (.inl ⟨a, vs, i, v, rfl, prep_int py, h2, k1, q _ F H (Same.refl _) ok k2⟩))
  · rename_i xs i
    obtain ⟨d, e1, rfl⟩ := Option.map_eq_some_iff.mp e
    obtain ⟨a, rfl, h2, h3⟩ := prep_ktp ok.same px
    obtain ⟨v, k1, k2⟩ := atI_reps h3 e1
    exact .inl (.inr (.inl ⟨a, _, i, v, rfl, prep_int py, h2, k1, q _ F H (Same.refl _) ok k2⟩))
  · rename_i xs i
    obtain ⟨d, e1, rfl⟩ := Option.map_eq_some_iff.mp e
    obtain ⟨a, vs, rfl, h2, h3⟩ := prep_scr ok.same px
    obtain ⟨v, k1, k2⟩ := atI_reps h3 e1
    exact .inl (.inl ⟨a, vs, i, v, rfl, prep_int py, h2, k1, q _ F H (Same.refl _) ok k2⟩)
  · rename_i zz i
    split at e
    · rename_i hl
      obtain ⟨cc, e1, rfl⟩ := Option.map_eq_some_iff.mp e
      exact .inl (.inr (.inr ⟨zz, i, cc, prep_str px, prep_int py, by rw [sizeLine_eq]; exact hl, e1, q _ F H (Same.refl _) ok rr_str⟩))
    · cases e
  · rename_i ks ds k
    obtain ⟨kk, e1, e2⟩ := Option.bind_eq_some_iff.mp e
    obtain ⟨d, e3, rfl⟩ := Option.map_eq_some_iff.mp e2
    obtain ⟨a, kvs, rfl, h2, h3, h4⟩ := prep_dK ok.same px
    subst h3
    obtain ⟨v, k1, k2⟩ := (lookD_val kk h4).1 d e3
    refine .inr ⟨a, v, rfl, ?_, q _ F H (Same.refl _) ok k2⟩
    rw [keyOf_v py e1, ← k1]
    exact .inl ⟨_, _, h2, rfl, rfl⟩
  · cases e
def flatD : D → Bool
  | .non => true
  | .bl _ => true
  | .int _ => true
  | .str _ => true
  | _ => false
def eqFl : D → D → Bool
  | .non, .non => true
  | .bl a, .bl b => a == b
  | .bl a, .int b => (if a then 1 else 0) == b
  | .int a, .bl b => a == (if b then 1 else 0)
  | .int a, .int b => a == b
  | .str a, .str b => a == b
  | _, _ => false
def inD (x : D) (xs : List D) : Bool := xs.any fun y => eqFl y x
def gIn : D → D → Option R
  | x, .lst ys => if flatD x && ys.all flatD then some (.imm (.bl (inD x ys))) else none
  | x, .tup ys => if flatD x && ys.all flatD then some (.imm (.bl (inD x ys))) else none
  | x, .ktp ns => if flatD x && (ns.map D.int).all flatD then some (.imm (.bl (inD x (ns.map D.int)))) else none
  | x, .dK ks ds => (keyOf x).map fun k => .imm (.bl (lookD ks ds k).isSome)
  | .tup kds, .dT ks ds => (keysOf kds).map fun k => .imm (.bl (lookD ks ds k).isSome)
  | _, _ => none
def gNotIn : D → D → Option R
  | x, .lst ys => if flatD x && ys.all flatD then some (.imm (.bl (!inD x ys))) else none
  | x, .tup ys => if flatD x && ys.all flatD then some (.imm (.bl (!inD x ys))) else none
  | x, .ktp ns => if flatD x && (ns.map D.int).all flatD then some (.imm (.bl (!inD x (ns.map D.int)))) else none
  | x, .dK ks ds => (keyOf x).map fun k => .imm (.bl (!(lookD ks ds k).isSome))
  | .tup kds, .dT ks ds => (keysOf kds).map fun k => .imm (.bl (!(lookD ks ds k).isSome))
  | _, _ => none
def rInD (neg : Bool) : R2 := fun y x H Q => ∃ a o, x = .ref a ∧ DGet H a y o ∧ Q (.bl (if neg then !o.isSome else o.isSome)) H
theorem op_inD {X : Cx} (hu : X.A.units + 1 < cLine) : OpR X (compareOp .In) (rInD false) := by
  intro pins s σ H y x iv u Q I ry rx h
  obtain ⟨a, o, rfl, g, q⟩ := h
  obtain rfl : u = Value.ref a := rx
  exact d_in hu I g ry fun s3 I3 => ⟨.bl o.isSome, H, I3, rfl, q⟩
def rInAll (K : PySem.W.Frag) (neg : Bool) : R2 := fun x y H Q => rIn K neg x y H Q ∨ rInD neg x y H Q
theorem op_inAll {X : Cx} {M : Gm} (hK : X.K = M.K) (hu : X.A.units + 1 < cLine) : OpR X (compareOp .In) (rInAll M.K false) := by rw [← hK]; exact op_in_seq.or (op_inD hu)
def flV : D → V
  | .non => .non
  | .bl b => .bl b
  | .int i => .int i
  | .str x => .str x
  | _ => .non
theorem flat_v {M : Gm} {F : Hp} {d : D} {v : V} (f : flatD d = true) (h : rep M F d v) : v = flV d ∧ flatV v = true := by
  cases d <;> simp [flatD] at f <;> unfold rep at h <;> subst h <;> exact ⟨rfl, rfl⟩
theorem flats_v {M : Gm} {F : Hp} : ∀ {ds : List D} {vs : List V}, ds.all flatD = true → reps M F ds vs → vs = ds.map flV ∧ vs.all flatV = true
  | [], vs, _, h => by unfold reps at h; subst h; exact ⟨rfl, rfl⟩
  | d :: ds, vs, f, h => by
    unfold reps at h
    obtain ⟨v, r, rfl, h2, h3⟩ := h
    rw [List.all_cons, Bool.and_eq_true] at f
    obtain ⟨e1, e2⟩ := flat_v f.1 h2
    obtain ⟨e3, e4⟩ := flats_v f.2 h3
    exact ⟨by rw [e1, e3]; rfl, by rw [List.all_cons, e2, e4]; rfl⟩
theorem eqFl_v {d e : D} (f : flatD d = true) (f' : flatD e = true) : eqV (flV d) (flV e) = eqFl d e := by
  cases d <;> simp [flatD] at f <;> cases e <;> simp [flatD] at f' <;> rfl
theorem inD_v {x : D} : ∀ {ds : List D}, flatD x = true → ds.all flatD = true → inV (flV x) (ds.map flV) = inD x ds
  | [], _, _ => rfl
  | d :: ds, f, f' => by
    rw [List.all_cons, Bool.and_eq_true] at f'
    have ih := inD_v f f'.2
    unfold inV inD at ih ⊢
    rw [List.map_cons, List.any_cons, List.any_cons, eqFl_v f'.1 f, ih]
theorem flat_p {M : Gm} {F H : Hp} {d : D} {v : V} (f : flatD d = true) (h : prep M F H d v) : v = flV d ∧ flatV v = true := by
  rcases h with h | ⟨o, a, _, rfl, _⟩
  · exact flat_v f h
  · cases o <;> cases f
theorem od_in {M : Gm} (neg : Bool) {g : D → D → Option R} (hg : g = if neg then gNotIn else gIn) : OpD M (rInAll M.K neg) g := by
  intro c F H σ δ x y dx dy z Q ok px py e q
  have seq : ∀ {ys : List D} {vs : List V} {a : Addr}, y = .ref a → (SqL M.K H a vs ∨ SqT M.K H a vs) → reps M F ys vs → (flatD dx && ys.all flatD) = true → z = .imm (.bl (if neg then !inD dx ys else inD dx ys)) → rInAll M.K neg x y H Q := by
    intro ys vs a e1 e2 e3 e4 e5
    rw [Bool.and_eq_true] at e4
    obtain ⟨f1, f2⟩ := flat_p e4.1 px
    obtain ⟨f3, f4⟩ := flats_v e4.2 e3
    refine .inl ⟨a, vs, e1, e2, f2, f4, ?_⟩
    rw [f1, f3, inD_v e4.1 e4.2]
    rw [e5] at q
    exact q _ F H (Same.refl _) ok rr_bl
  have dict : ∀ {ks : List Key} {ds : List D} {k : Key}, prep M F H (.dK ks ds) y → keyOf dx = some k → z = .imm (.bl (if neg then !(lookD ks ds k).isSome else (lookD ks ds k).isSome)) → rInAll M.K neg x y H Q := by
    intro ks ds k py e1 e2
    obtain ⟨a, kvs, rfl, h2, h3, h4⟩ := prep_dK ok.same py
    subst h3
    have lk := lookD_val k h4
    refine .inr ⟨a, valV kvs k, rfl, ?_, ?_⟩
    · rw [keyOf_v px e1]; exact .inl ⟨_, _, h2, rfl, rfl⟩
    · rw [e2] at q
      have e : (valV kvs k).isSome = (lookD (kvs.map (·.1)) ds k).isSome := by
        cases l : lookD (kvs.map (·.1)) ds k with
        | none => rw [lk.2 l]; rfl
        | some d => obtain ⟨v, e, _⟩ := lk.1 d l; rw [e]; rfl
      rw [e]
      exact q _ F H (Same.refl _) ok rr_bl
  have dictT : ∀ {kds : List D} {ks : List (List Key)} {ds : List D} {k : List Key}, prep M F H (.dT ks ds) y → prep M F H (.tup kds) x → keysOf kds = some k → z = .imm (.bl (if neg then !(lookD ks ds k).isSome else (lookD ks ds k).isSome)) → rInAll M.K neg x y H Q := by
    intro kds ks ds k py px e1 e2
    obtain ⟨a, kvs, rfl, h2, h3, h4⟩ := prep_dT ok.same py
    obtain ⟨b, rfl, hb⟩ := prep_tupK ok.same px e1
    subst h3
    have lk := lookD_val k h4
    refine .inr ⟨a, valV kvs k, rfl, .inr ⟨_, _, _, h2, rfl, hb, rfl⟩, ?_⟩
    rw [e2] at q
    have e : (valV kvs k).isSome = (lookD (kvs.map (·.1)) ds k).isSome := by
      cases l : lookD (kvs.map (·.1)) ds k with
      | none => rw [lk.2 l]; rfl
      | some d => obtain ⟨v, e, _⟩ := lk.1 d l; rw [e]; rfl
    rw [e]
    exact q _ F H (Same.refl _) ok rr_bl
  subst hg
  cases neg with
  | false =>
    have e : gIn dx dy = some z := e
    unfold gIn at e
    split at e
    · split at e
      · rename_i ys hf
        cases e
        obtain ⟨a, vs, h1, h2, h3⟩ := prep_lst ok.same py
        exact seq h1 (.inl (SqL.of h2)) h3 hf rfl
      · cases e
    · split at e
      · rename_i ys hf
        cases e
        obtain ⟨a, vs, h1, h2, h3⟩ := prep_tup ok.same py
        exact seq h1 (.inr h2) h3 hf rfl
      · cases e
    · split at e
      · rename_i ys hf
        cases e
        obtain ⟨a, h1, h2, h3⟩ := prep_ktp ok.same py
        exact seq h1 (.inr h2) h3 hf rfl
      · cases e
    · obtain ⟨k, e1, e2⟩ := Option.map_eq_some_iff.mp e
      exact dict py e1 e2.symm
    · obtain ⟨k, e1, e2⟩ := Option.map_eq_some_iff.mp e
      exact dictT py px e1 e2.symm
    · cases e
  | true =>
    have e : gNotIn dx dy = some z := e
    unfold gNotIn at e
    split at e
    · split at e
      · rename_i ys hf
        cases e
        obtain ⟨a, vs, h1, h2, h3⟩ := prep_lst ok.same py
        exact seq h1 (.inl (SqL.of h2)) h3 hf rfl
      · cases e
    · split at e
      · rename_i ys hf
        cases e
        obtain ⟨a, vs, h1, h2, h3⟩ := prep_tup ok.same py
        exact seq h1 (.inr h2) h3 hf rfl
      · cases e
    · split at e
      · rename_i ys hf
        cases e
        obtain ⟨a, h1, h2, h3⟩ := prep_ktp ok.same py
        exact seq h1 (.inr h2) h3 hf rfl
      · cases e
    · obtain ⟨k, e1, e2⟩ := Option.map_eq_some_iff.mp e
      exact dict py e1 e2.symm
    · obtain ⟨k, e1, e2⟩ := Option.map_eq_some_iff.mp e
      exact dictT py px e1 e2.symm
    · cases e
end
end TS

namespace TS
open PySem L2
noncomputable section
abbrev RE (M : Gm) (W : WX) (t : TE) (f : FE) : Prop := ∀ (c : Cn M) F H σ δ Q, Ok c F H σ δ → Post c W F σ (ρR c σ) (f δ) Q → t σ H Q
def fTst (f : FE) : FT := fun δ => (f δ).bind fun r δ => match r with
  | .imm (.bl b) => .ok b δ
  | _ => .bad
section
variable {M : Gm} {c : Cn M} {W : WX} {X : Cx} {e a b : Expr} {pos : Pos}
theorem tst_of {t : TE} {f : FE} (h : RE M W t f) : ∀ (c : Cn M) F H σ δ Q, Ok c F H σ δ → Post c W F σ ρT (fTst f δ) Q → tTest t σ H Q := fun c F H σ δ Q ok post =>
  h c F H σ δ _ ok (Post.bind post fun r δ1 v F1 H1 _ s ok1 rr post => by
    split at post
    · rename_i b0 _
      have e : v = .bl b0 := by
        have z : rep M F1 (.bl b0) v := rr
        unfold rep at z; exact z
      subst e
      exact ⟨b0, rfl, post.ok ok1 rfl⟩
    · exact post.elim)
theorem dt_val {f : FE} (h : DE M W X e f) (he : ∀ whole, isTrue e X.env whole = (do let v ← whole; standAt e.pos; holding [v] (truthy v)) := by intro _; rfl) : DT M W X e (fTst f) := by
  obtain ⟨t, p, h⟩ := h
  exact ⟨_, pt_val p he, tst_of h⟩
theorem dt_op {r : R2} {g : D → D → Option R} {fa fb : FD} (mk : ∀ {ta tb : TE}, PE X a ta → PE X b tb → PT X e (tTest (tOp r ta tb))) (hd : OpD M r g) (ha : DI M W X a fa) (hb : DP M W X b fb) : DT M W X e (fTst (fBin g fa fb)) := by
  obtain ⟨ta, pa, ha⟩ := ha
  obtain ⟨tb, pb, hb⟩ := hb
  refine ⟨_, mk pa pb, tst_of fun c F H σ δ Q ok post => ha c F H σ δ _ ok (Post.bind post fun dx δ1 x F1 H1 _ s1 ok1 rx post => hb c F1 H1 σ δ1 _ ok1 (Post.bind post fun dy δ2 y F2 H2 _ s2 ok2 ry post => ?_))⟩
  exact bin_of hd ok2 (.inl (rep_mono s2 _ _ rx)) ry post
theorem dt_opV {i : Nat} {r : R2} {g : D → D → Option R} {fb : FD} (mk : ∀ {ta tb : TE}, PE X a ta → PE X b tb → PT X e (tTest (tOp r ta tb))) (hd : OpD M r g) (ha : PE X a (tVar i)) (hb : DP M W X b fb) : DT M W X e (fTst (fBinV g i fb)) := by
  obtain ⟨tb, pb, hb⟩ := hb
  refine ⟨_, mk ha pb, tst_of fun c F H σ δ Q ok post => ?_⟩
  unfold fBinV at post
  by_cases ht : there δ i = true
  · rw [if_pos ht] at post
    obtain ⟨v, e1⟩ := there_v ok ht
    refine ⟨v, e1, hb c F H σ δ _ ok (Post.bind post fun dy δ2 y F2 H2 _ s2 ok2 ry post => ?_)⟩
    exact vP_run ok2 e1 post fun dx _ px post => bin_of hd ok2 px ry post
  · rw [if_neg ht] at post
    exact post.elim
def fNot (f : FT) : FT := fun δ => (f δ).bind fun b δ => .ok (!b) δ
def fAnd (f g : FT) : FT := fun δ => (f δ).bind fun b δ => if b then g δ else .ok false δ
def fOr (f g : FT) : FT := fun δ => (f δ).bind fun b δ => if b then .ok true δ else g δ
theorem dt_not {f : FT} (h : DT M W X a f) : DT M W X (.UnaryOp .Not a pos) (fNot f) := by
  obtain ⟨t, p, h⟩ := h
  refine ⟨_, pt_not p, fun c F H σ δ Q ok post => h c F H σ δ _ ok (Post.bind post fun b δ1 k F1 H1 _ s ok1 e post => ?_)⟩
  cases (show b = k from e)
  exact post.ok ok1 rfl
theorem DW.pt {f : FT} (h : DW M W X e f) : DT M W X e f := by
  obtain ⟨t, p, h⟩ := h
  exact ⟨t, p.pt, h⟩
theorem dw_and1 {f : FT} (h : DT M W X a f) : DW M W X (.BoolOp .And [a] pos) f := by
  obtain ⟨t, p, h⟩ := h
  exact ⟨t, pw_and1 p, h⟩
theorem dw_or1 {f : FT} (h : DT M W X a f) : DW M W X (.BoolOp .Or [a] pos) f := by
  obtain ⟨t, p, h⟩ := h
  exact ⟨t, pw_or1 p, h⟩
theorem dw_and {f g : FT} {rest : List Expr} (h : DT M W X a f) (h' : DW M W X (.BoolOp .And (b :: rest) pos) g) : DW M W X (.BoolOp .And (a :: b :: rest) pos) (fAnd f g) := by
  obtain ⟨t, p, h⟩ := h
  obtain ⟨t', p', h'⟩ := h'
  refine ⟨_, pw_and p p', fun c F H σ δ Q ok post => h c F H σ δ _ ok (Post.bind post fun b δ1 k F1 H1 _ s ok1 e post => ?_)⟩
  cases (show b = k from e)
  cases b with
  | true => exact h' c F1 H1 σ δ1 Q ok1 post
  | false => exact post.ok ok1 rfl
theorem dw_or {f g : FT} {rest : List Expr} (h : DT M W X a f) (h' : DW M W X (.BoolOp .Or (b :: rest) pos) g) : DW M W X (.BoolOp .Or (a :: b :: rest) pos) (fOr f g) := by
  obtain ⟨t, p, h⟩ := h
  obtain ⟨t', p', h'⟩ := h'
  refine ⟨_, pw_or p p', fun c F H σ δ Q ok post => h c F H σ δ _ ok (Post.bind post fun b δ1 k F1 H1 _ s ok1 e post => ?_)⟩
  cases (show b = k from e)
  cases b with
  | false => exact h' c F1 H1 σ δ1 Q ok1 post
  | true => exact post.ok ok1 rfl
def fAndV (f : FD) (g : FE) : FE := fun δ => (f δ).bind fun d δ => match d with
  | .bl true => g δ
  | .bl false => .ok (.imm (.bl false)) δ
  | _ => .bad
def fOrV (f : FD) (g : FE) : FE := fun δ => (f δ).bind fun d δ => match d with
  | .bl true => .ok (.imm (.bl true)) δ
  | .bl false => g δ
  | _ => .bad
def fNotV (f : FD) : FD := fun δ => (f δ).bind fun d δ => match d with
  | .bl b => .ok (.bl (!b)) δ
  | _ => .bad
theorem de_one {op} {f : FE} (h : DE M W X a f) : DE M W X (.BoolOp op [a] pos) f := by
  obtain ⟨t, p, h⟩ := h
  exact ⟨t, pe_one p, h⟩
theorem de_and {f : FD} {g : FE} {rest : List Expr} (h : DI M W X a f) (h' : DE M W X (.BoolOp .And (b :: rest) pos) g) : DE M W X (.BoolOp .And (a :: b :: rest) pos) (fAndV f g) := by
  obtain ⟨t, p, h⟩ := h
  obtain ⟨t', p', h'⟩ := h'
  refine ⟨_, pe_and p p', fun c F H σ δ Q ok post => h c F H σ δ _ ok (Post.bind post fun d δ1 v F1 H1 _ s ok1 r post => ?_)⟩
  split at post
  · have e : v = .bl true := by unfold ρD rep at r; exact r
    subst e
    exact ⟨true, rfl, h' c F1 H1 σ δ1 Q ok1 post⟩
  · have e : v = .bl false := by unfold ρD rep at r; exact r
    subst e
    exact ⟨false, rfl, post.ok ok1 rr_bl⟩
  · exact post.elim
theorem di_not {f : FD} (h : DI M W X a f) : DI M W X (.UnaryOp .Not a pos) (fNotV f) := by
  obtain ⟨t, p, h⟩ := h
  refine ⟨_, pe_not p, fun c F H σ δ Q ok post => h c F H σ δ _ ok (Post.bind post fun d δ1 v F1 H1 _ s ok1 r post => ?_)⟩
  split at post
  · rename_i b0 _
    have e : v = .bl b0 := by unfold ρD rep at r; exact r
    subst e
    exact ⟨b0, rfl, post.ok ok1 (rep_bl' _)⟩
  · exact post.elim
def fIfE (f : FT) (g h : FE) : FE := fun δ => (f δ).bind fun b δ => if b then g δ else h δ
theorem de_if {f : FT} {g g' : FE} {t : Expr} (h : DT M W X t f) (ha : DE M W X a g) (hb : DE M W X b g') : DE M W X (.IfExp t a b pos) (fIfE f g g') := by
  obtain ⟨t, p, h⟩ := h
  obtain ⟨ta, pa, ha⟩ := ha
  obtain ⟨tb, pb, hb⟩ := hb
  refine ⟨_, pe_ifExp p pa pb, fun c F H σ δ Q ok post => h c F H σ δ _ ok (Post.bind post fun b δ1 k F1 H1 _ s ok1 e post => ?_)⟩
  cases (show b = k from e)
  cases b with
  | true => exact ha c F1 H1 σ δ1 Q ok1 post
  | false => exact hb c F1 H1 σ δ1 Q ok1 post
end
def aNil : FA := fun δ => .ok [] δ
def aCons (f : FD) (g : FA) : FA := fun δ => (f δ).bind fun d δ1 => (g δ1).bind fun ds δ2 => .ok (d :: ds) δ2
def aOne (f : FD) : FA := fun δ => (f δ).bind fun d δ1 => .ok [d] δ1
section
variable {M : Gm} {c : Cn M} {W : WX} {X : Cx} {e : Expr} {es : List Expr}
theorem da_nil : DA M W X [] aNil := ⟨_, pa_nil, fun c F H σ δ Q ok post => post.ok ok reps_nil⟩
theorem da_cons {f : FD} {g : FA} (h : DI M W X e f) (h' : DA M W X es g) (hs : starEach (e :: es) X.env = (false, eval e X.env) :: starEach es X.env := by rfl) : DA M W X (e :: es) (aCons f g) := by
  obtain ⟨t, p, h⟩ := h
  obtain ⟨t', p', h'⟩ := h'
  exact ⟨_, pa_cons p p' hs, fun c F H σ δ Q ok post => h c F H σ δ _ ok (Post.bind post fun d δ1 v F1 H1 _ s ok1 r post => h' c F1 H1 σ δ1 _ ok1 (Post.bind post fun ds δ2 vs F2 H2 _ s2 ok2 rs post => post.ok ok2 (reps_cons (rep_mono s2 _ _ r) rs)))⟩
theorem reps_paired {F H : Hp} : ∀ {ds : List D} {vs : List V}, reps M F ds vs → Paired (prep M F H) ds vs
  | [], vs, h => by unfold reps at h; subst h; exact .nil
  | d :: ds, vs, h => by
    unfold reps at h
    obtain ⟨v, r, rfl, h2, h3⟩ := h
    exact .cons (.inl h2) (reps_paired h3)
theorem DA.b {f : FA} (h : DA M W X es f) : DB M W X es f := by
  obtain ⟨t, p, h⟩ := h
  refine ⟨t, p, fun c F H σ δ Q ok post => h c F H σ δ Q ok ?_⟩
  cases q : f δ with
  | ok d δ1 => rw [q] at post; exact fun v F' H' s ok' r => post v F' H' s ok' (reps_paired r)
  | exc x δ1 => rw [q] at post; exact post
  | bad => rw [q] at post; exact post
theorem db_one {f : FD} (h : DP M W X e f) (hs : starEach (e :: []) X.env = (false, eval e X.env) :: starEach [] X.env := by rfl) : DB M W X [e] (aOne f) := by
  obtain ⟨t, p, h⟩ := h
  exact ⟨_, pa_cons p pa_nil hs, fun c F H σ δ Q ok post => h c F H σ δ _ ok (Post.bind post fun d δ1 v F1 H1 _ s ok1 r post => post.ok ok1 (.cons r .nil))⟩
end
abbrev RC := List V → Hp → VK → Prop
def CallD (M : Gm) (r : RC) (g : List D → Option R) : Prop := ∀ (c : Cn M) (F H : Hp) (σ : St) (δ : Sl) (xs : List V) (ds : List D) (z : R) (Q : VK), Ok c F H σ δ → Paired (prep M F H) ds xs → g ds = some z →
  (∀ v F' H', Same F F' → Ok c F' H' σ δ → repR c F' H' σ δ z v → Q v H') → r xs H Q
def fCal (g : List D → Option R) (fa : FA) : FE := fun δ => (fa δ).bind fun ds δ1 => match g ds with
  | some z => .ok z δ1
  | none => .bad
section
variable {M : Gm} {c : Cn M} {W : WX} {X : Cx} {e : Expr} {es : List Expr} {r : RC} {g : List D → Option R} {fa : FA}
theorem d_call (mk : ∀ {t : TA}, PA X es t → PE X e (tCB r t)) (hd : CallD M r g) (ha : DB M W X es fa) : DE M W X e (fCal g fa) := by
  obtain ⟨t, p, h⟩ := ha
  refine ⟨_, mk p, fun c F H σ δ Q ok post => h c F H σ δ _ ok (Post.bind post fun ds δ1 vs F1 H1 _ s ok1 rs post => ?_)⟩
  cases q : g ds with
  | none => rw [q] at post; exact post.elim
  | some z => rw [q] at post; exact hd c F1 H1 σ δ1 vs ds z Q ok1 rs q post
theorem CallR.or {f : Value} {r r' : RC} (h : CallR X f r) (h' : CallR X f r') : CallR X f (fun xs H Q => r xs H Q ∨ r' xs H Q) := by
  intro pins s σ H xs us Q I rs q
  rcases q with q | q
  · exact h pins s σ H xs us Q I rs q
  · exact h' pins s σ H xs us Q I rs q
def gcOr (g g' : List D → Option R) : List D → Option R := fun ds => match g ds with
  | some z => some z
  | none => g' ds
theorem CallD.or {r r' : RC} {g g' : List D → Option R} (h : CallD M r g) (h' : CallD M r' g') : CallD M (fun xs H Q => r xs H Q ∨ r' xs H Q) (gcOr g g') := by
  intro c F H σ δ xs ds z Q ok pxs e q
  unfold gcOr at e
  cases e1 : g ds with
  | some w => rw [e1] at e; cases e; exact .inl (h c F H σ δ xs ds _ Q ok pxs e1 q)
  | none => rw [e1] at e; exact .inr (h' c F H σ δ xs ds z Q ok pxs e q)
theorem p1 {F H : Hp} {d : D} {xs : List V} (h : Paired (prep M F H) [d] xs) : ∃ x, xs = [x] ∧ prep M F H d x := by
  cases h with
  | cons a b => cases b; exact ⟨_, rfl, a⟩
theorem p2 {F H : Hp} {d d' : D} {xs : List V} (h : Paired (prep M F H) [d, d'] xs) : ∃ x y, xs = [x, y] ∧ prep M F H d x ∧ prep M F H d' y := by
  cases h with
  | cons a b =>
    cases b with
    | cons a' b' => cases b'; exact ⟨_, _, rfl, a, a'⟩
def lenD : D → Option Nat
  | .lst xs => some xs.length
  | .tup xs => some xs.length
  | .ktp ns => some ns.length
  | .scr xs => some xs.length
  | .str z => if z.length ≤ 16777216 then some z.length else none
  | .dK ks ds => some ds.length
  | _ => none
def gLen : List D → Option R
  | [d] => (lenD d).map fun n => .imm (.int n)
  | _ => none
def rLenAll (K : PySem.W.Frag) : RC := fun xs H Q => (∃ x n, xs = [x] ∧ LenV K x H n ∧ Q (.int n) H) ∨ ∃ a kvs, xs = [V.ref a] ∧ Rd H a (.dK kvs) ∧ Q (.int kvs.length) H
theorem call_lenRd : CallR X (.builtin "len") (fun xs H Q => ∃ a kvs, xs = [V.ref a] ∧ Rd H a (.dK kvs) ∧ Q (.int kvs.length) H) := by
  intro pins s σ H xs us Q I r h
  obtain ⟨a, kvs, rfl, ha, q⟩ := h
  obtain ⟨u, rfl, ru⟩ := vals1 r
  cases ru
  exact d_len I ha fun t s' I' => ⟨.int kvs.length, H, I', ⟨t, rfl⟩, q⟩
theorem call_lenAll (hK : X.K = M.K) : CallR X (.builtin "len") (rLenAll M.K) := by rw [← hK]; exact CallR.or call_len call_lenRd
theorem cd_len : CallD M (rLenAll M.K) gLen := by
  intro c F H σ δ xs ds z Q ok pxs e q
  unfold gLen at e
  split at e
  · rename_i d
    obtain ⟨n, e1, rfl⟩ := Option.map_eq_some_iff.mp e
    obtain ⟨x, rfl, px⟩ := p1 pxs
    have fin := q (.int n) F H (Same.refl _) ok rr_int
    unfold lenD at e1
    split at e1
    · cases e1
      obtain ⟨a, vs, rfl, h2, h3⟩ := prep_lst ok.same px
      exact .inl ⟨_, _, rfl, .inl ⟨vs, SqL.of h2, (reps_length h3).symm⟩, fin⟩
    · cases e1
      obtain ⟨a, vs, rfl, h2, h3⟩ := prep_tup ok.same px
      exact .inl ⟨_, _, rfl, .inr ⟨vs, h2, (reps_length h3).symm⟩, fin⟩
    · cases e1
      obtain ⟨a, rfl, h2, h3⟩ := prep_ktp ok.same px
      exact .inl ⟨_, _, rfl, .inr ⟨_, h2, by rw [List.length_map]⟩, fin⟩
    · cases e1
      obtain ⟨a, vs, rfl, h2, h3⟩ := prep_scr ok.same px
      exact .inl ⟨_, _, rfl, .inl ⟨vs, h2, (reps_length h3).symm⟩, fin⟩
    · split at e1
      · rename_i hl
        cases e1
        have ex := prep_str px
        subst ex
        exact .inl ⟨_, _, rfl, ⟨by rw [sizeLine_eq]; exact hl, rfl⟩, fin⟩
      · cases e1
    · cases e1
      obtain ⟨a, kvs, rfl, h2, h3, h4⟩ := prep_dK ok.same px
      refine .inr ⟨a, kvs, rfl, h2, ?_⟩
      have := reps_length h4
      rw [List.length_map] at this
      rw [this]; exact fin
    · cases e1
  · cases e
def gAbs : List D → Option R
  | [.int i] => some (.imm (.int (if i < 0 then -i else i)))
  | _ => none
theorem cd_abs : CallD M (fun xs H Q => ∃ i, xs = [.int i] ∧ Q (.int (if i < 0 then -i else i)) H) gAbs := by
  intro c F H σ δ xs ds z Q ok pxs e q
  unfold gAbs at e
  split at e
  · cases e
    obtain ⟨x, rfl, px⟩ := p1 pxs
    cases prep_int px
    exact ⟨_, rfl, q _ F H (Same.refl _) ok rr_int⟩
  · cases e
def gMax2 : List D → Option R
  | [.int i, .int j] => some (.imm (.int (if j > i then j else i)))
  | _ => none
def gMin2 : List D → Option R
  | [.int i, .int j] => some (.imm (.int (if j < i then j else i)))
  | _ => none
theorem cd_max2 : CallD M (fun xs H Q => ∃ i j, xs = [.int i, .int j] ∧ Q (.int (if j > i then j else i)) H) gMax2 := by
  intro c F H σ δ xs ds z Q ok pxs e q
  unfold gMax2 at e
  split at e
  · cases e
    obtain ⟨x, y, rfl, px, py⟩ := p2 pxs
    cases prep_int px
    cases prep_int py
    exact ⟨_, _, rfl, q _ F H (Same.refl _) ok rr_int⟩
  · cases e
theorem cd_min2 : CallD M (fun xs H Q => ∃ i j, xs = [.int i, .int j] ∧ Q (.int (if j < i then j else i)) H) gMin2 := by
  intro c F H σ δ xs ds z Q ok pxs e q
  unfold gMin2 at e
  split at e
  · cases e
    obtain ⟨x, y, rfl, px, py⟩ := p2 pxs
    cases prep_int px
    cases prep_int py
    exact ⟨_, _, rfl, q _ F H (Same.refl _) ok rr_int⟩
  · cases e
def gInt : List D → Option R
  | [.int i] => some (.imm (.int i))
  | [.bl k] => some (.imm (.int (if k then 1 else 0)))
  | _ => none
theorem cd_int : CallD M (fun xs H Q => (∃ i, xs = [.int i] ∧ Q (.int i) H) ∨ ∃ k, xs = [.bl k] ∧ Q (.int (if k then 1 else 0)) H) gInt := by
  intro c F H σ δ xs ds z Q ok pxs e q
  unfold gInt at e
  split at e
  · cases e
    obtain ⟨x, rfl, px⟩ := p1 pxs
    cases prep_int px
    exact .inl ⟨_, rfl, q _ F H (Same.refl _) ok rr_int⟩
  · cases e
    obtain ⟨x, rfl, px⟩ := p1 pxs
    cases prep_bl px
    exact .inr ⟨_, rfl, q _ F H (Same.refl _) ok rr_int⟩
  · cases e
def gList : List D → Option R
  | [.lst xs] => some (.own (.l xs))
  | [.tup xs] => some (.own (.l xs))
  | _ => none
theorem cd_list {K : PySem.W.Frag} (hK : K = M.K) : CallD M (fun xs H Q => ∃ p ys, xs = [.ref p] ∧ (SqL K H p ys ∨ SqT K H p ys) ∧ ∀ l, H l = none → Q (.ref l) (upd H l (.lst ys))) gList := by
  intro c F H σ δ xs ds z Q ok pxs e q
  subst hK
  unfold gList at e
  split at e
  · cases e
    obtain ⟨x, rfl, px⟩ := p1 pxs
    obtain ⟨a, vs, rfl, h2, h3⟩ := prep_lst ok.same px
    refine ⟨a, vs, rfl, .inl (SqL.of h2), fun p hp => ?_⟩
    obtain ⟨o1, o2⟩ := new_list ok hp h3
    exact q _ F _ (Same.refl _) o1 o2
  · cases e
    obtain ⟨x, rfl, px⟩ := p1 pxs
    obtain ⟨a, vs, rfl, h2, h3⟩ := prep_tup ok.same px
    refine ⟨a, vs, rfl, .inr h2, fun p hp => ?_⟩
    obtain ⟨o1, o2⟩ := new_list ok hp h3
    exact q _ F _ (Same.refl _) o1 o2
  · cases e
theorem new_tup {F H : Hp} {σ : St} {δ : Sl} (ok : Ok c F H σ δ) {p : Addr} (hp : H p = none) {ds : List D} {vs : List V} (r : reps M F ds vs) : ∃ F', Same F F' ∧ Ok c F' (upd H p (.tup vs)) σ δ ∧ rep M F' (.tup ds) (.ref p) := by
  have ok1 : Ok c F (upd H p (.tup vs)) σ δ := ok.alloc hp
  have hF := ok.f hp
  have g : Same F (upd F p (.tup vs)) := fun b o e => by rw [upd_ne (ne_of_none e hF)]; exact e
  refine ⟨upd F p (.tup vs), g, ⟨fun b o e => ?_, ok.grow.trans g, fun b e1 e2 => ?_, ok1.kept, ok1.ioh, ok1.tb.frz upd_same rfl, ok.len, fun i r e => ?_, ok.dist⟩, ?_⟩
  · by_cases q : b = p
    · subst q; rw [upd_same] at e ⊢; exact e
    · rw [upd_ne q] at e ⊢; exact ok.same b o e
  · have q : b ≠ p := fun z => e1 (z ▸ ok.h0 hp)
    rw [upd_ne q]; exact ok.nofz b e1 e2
  · obtain ⟨v, e1, e2⟩ := ok1.slot i r e
    refine ⟨v, e1, ?_⟩
    cases r with
    | imm d => exact rep_mono g _ _ e2
    | own o =>
      obtain ⟨a', rfl, k1, k2, k3⟩ := e2
      have q : a' ≠ p := fun z => ok.fresh hp i _ e rfl (by rw [e1, z])
      exact ⟨a', rfl, by rw [upd_ne q]; exact k1, k2, obAt_mono g rfl k3⟩
    | brw o =>
      obtain ⟨a', rfl, k1, k2, k3⟩ := e2
      have q : a' ≠ p := fun z => ok.fresh hp i _ e rfl (by rw [e1, z])
      exact ⟨a', rfl, by rw [upd_ne q]; exact k1, k2, obAt_mono g rfl k3⟩
    | nst tp ps => exact slot_nst g e2
  · unfold rep
    exact ⟨p, vs, rfl, upd_same, reps_mono g _ _ r⟩
def intsD : List D → Option (List Int)
  | [] => some []
  | .int i :: r => (intsD r).map (i :: ·)
  | _ :: _ => none
def blsOf : List D → Option (List Bool)
  | [] => some []
  | .bl i :: r => (blsOf r).map (i :: ·)
  | _ :: _ => none
theorem intsD_v {M : Gm} {F : Hp} : ∀ {ds : List D} {vs : List V} {ns : List Int}, reps M F ds vs → intsD ds = some ns → vs = ns.map V.int
  | [], vs, ns, h, e => by unfold reps at h; unfold intsD at e; cases e; subst h; rfl
  | d :: ds, vs, ns, h, e => by
    unfold reps at h
    obtain ⟨v, r, rfl, h2, h3⟩ := h
    cases d <;> simp [intsD] at e
    obtain ⟨ms, e1, rfl⟩ := e
    unfold rep at h2
    subst h2
    rw [intsD_v h3 e1]; rfl
theorem blsOf_v {M : Gm} {F : Hp} : ∀ {ds : List D} {vs : List V} {ns : List Bool}, reps M F ds vs → blsOf ds = some ns → vs = ns.map V.bl
  | [], vs, ns, h, e => by unfold reps at h; unfold blsOf at e; cases e; subst h; rfl
  | d :: ds, vs, ns, h, e => by
    unfold reps at h
    obtain ⟨v, r, rfl, h2, h3⟩ := h
    cases d <;> simp [blsOf] at e
    obtain ⟨ms, e1, rfl⟩ := e
    unfold rep at h2
    subst h2
    rw [blsOf_v h3 e1]; rfl
def maxL : List Int → Int
  | [] => 0
  | [x] => x
  | x :: r => max x (maxL r)
def minL : List Int → Int
  | [] => 0
  | [x] => x
  | x :: r => min x (minL r)
theorem maxL_ok : ∀ {ns : List Int}, 0 < ns.length → maxL ns ∈ ns ∧ ∀ y ∈ ns, y ≤ maxL ns
  | [], h => by simp at h
  | [x], _ => by simp [maxL]
  | x :: y :: r, _ => by
    obtain ⟨h1, h2⟩ := maxL_ok (ns := y :: r) (by simp)
    unfold maxL
    constructor
    · rcases Int.le_total x (maxL (y :: r)) with h | h
      · rw [Int.max_eq_right h]; exact List.mem_cons_of_mem _ h1
      · rw [Int.max_eq_left h]; exact List.mem_cons_self
    · intro z hz
      rcases List.mem_cons.mp hz with rfl | hz
      · exact Int.le_max_left _ _
      · exact Int.le_trans (h2 z hz) (Int.le_max_right _ _)
theorem minL_ok : ∀ {ns : List Int}, 0 < ns.length → minL ns ∈ ns ∧ ∀ y ∈ ns, minL ns ≤ y
  | [], h => by simp at h
  | [x], _ => by simp [minL]
  | x :: y :: r, _ => by
    obtain ⟨h1, h2⟩ := minL_ok (ns := y :: r) (by simp)
    unfold minL
    constructor
    · rcases Int.le_total x (minL (y :: r)) with h | h
      · rw [Int.min_eq_left h]; exact List.mem_cons_self
      · rw [Int.min_eq_right h]; exact List.mem_cons_of_mem _ h1
    · intro z hz
      rcases List.mem_cons.mp hz with rfl | hz
      · exact Int.min_le_left _ _
      · exact Int.le_trans (Int.min_le_right _ _) (h2 z hz)
def gSum : List D → Option R
  | [.lst xs] => (intsD xs).map fun ns => .imm (.int ns.sum)
  | _ => none
def gMaxL : List D → Option R
  | [.lst xs] => (intsD xs).bind fun ns => if 0 < ns.length then some (.imm (.int (maxL ns))) else none
  | _ => none
def gMinL : List D → Option R
  | [.lst xs] => (intsD xs).bind fun ns => if 0 < ns.length then some (.imm (.int (minL ns))) else none
  | _ => none
def gAll : List D → Option R
  | [.lst xs] => (blsOf xs).map fun bs => .imm (.bl (bs.all id))
  | _ => none
theorem cd_sum {K : PySem.W.Frag} : CallD M (rSum K) gSum := by
  intro c F H σ δ xs ds z Q ok pxs e q
  unfold gSum at e
  split at e
  · obtain ⟨ns, e1, rfl⟩ := Option.map_eq_some_iff.mp e
    obtain ⟨x, rfl, px⟩ := p1 pxs
    obtain ⟨a, vs, rfl, h2, h3⟩ := prep_lst ok.same px
    have ev := intsD_v h3 e1
    subst ev
    exact ⟨a, ns, rfl, SqL.of h2, q _ F H (Same.refl _) ok rr_int⟩
  · cases e
theorem cd_maxL {K : PySem.W.Frag} : CallD M (rMax K) gMaxL := by
  intro c F H σ δ xs ds z Q ok pxs e q
  unfold gMaxL at e
  split at e
  · obtain ⟨ns, e1, e2⟩ := Option.bind_eq_some_iff.mp e
    split at e2
    · rename_i hl
      cases e2
      obtain ⟨x, rfl, px⟩ := p1 pxs
      obtain ⟨a, vs, rfl, h2, h3⟩ := prep_lst ok.same px
      have ev := intsD_v h3 e1
      subst ev
      refine ⟨a, ns, rfl, SqL.of h2, hl, fun m hm hy => ?_⟩
      obtain ⟨k1, k2⟩ := maxL_ok hl
      have em : m = maxL ns := Int.le_antisymm (k2 m hm) (hy _ k1)
      rw [em]
      exact q _ F H (Same.refl _) ok rr_int
    · cases e2
  · cases e
theorem cd_minL {K : PySem.W.Frag} : CallD M (rMin K) gMinL := by
  intro c F H σ δ xs ds z Q ok pxs e q
  unfold gMinL at e
  split at e
  · obtain ⟨ns, e1, e2⟩ := Option.bind_eq_some_iff.mp e
    split at e2
    · rename_i hl
      cases e2
      obtain ⟨x, rfl, px⟩ := p1 pxs
      obtain ⟨a, vs, rfl, h2, h3⟩ := prep_lst ok.same px
      have ev := intsD_v h3 e1
      subst ev
      refine ⟨a, ns, rfl, SqL.of h2, hl, fun m hm hy => ?_⟩
      obtain ⟨k1, k2⟩ := minL_ok hl
      have em : m = minL ns := Int.le_antisymm (hy _ k1) (k2 m hm)
      rw [em]
      exact q _ F H (Same.refl _) ok rr_int
    · cases e2
  · cases e
theorem cd_all {K : PySem.W.Frag} : CallD M (rAll K) gAll := by
  intro c F H σ δ xs ds z Q ok pxs e q
  unfold gAll at e
  split at e
  · obtain ⟨ns, e1, rfl⟩ := Option.map_eq_some_iff.mp e
    obtain ⟨x, rfl, px⟩ := p1 pxs
    obtain ⟨a, vs, rfl, h2, h3⟩ := prep_lst ok.same px
    have ev := blsOf_v h3 e1
    subst ev
    exact ⟨a, ns, rfl, SqL.of h2, q _ F H (Same.refl _) ok rr_bl⟩
  · cases e
def gDivmod : List D → Option R
  | [.int i, .int j] => if decide (0 < j ∧ j.natAbs.log2 < 9000) then some (.imm (.tup [.int (i / j), .int (i % j)])) else none
  | _ => none
end
end
end TS

namespace TS
open PySem L2
noncomputable section
def fLst (fa : FA) : FE := fun δ => (fa δ).bind fun ds δ => if ds.length ≤ 16777216 then .ok (.own (.l ds)) δ else .bad
def fTup (fa : FA) : FD := fun δ => (fa δ).bind fun ds δ => if ds.length ≤ 16777216 then .ok (.tup ds) δ else .bad
section
variable {M : Gm} {c : Cn M} {W : WX} {X : Cx} {es : List Expr} {pos : Pos} {fa : FA}
theorem de_lst (h : DA M W X es fa) : DE M W X (.List es pos) (fLst fa) := by
  obtain ⟨t, p, h⟩ := h
  refine ⟨_, pe_lst p, fun c F H σ δ Q ok post => h c F H σ δ _ ok (Post.bind post fun ds δ1 vs F1 H1 _ s ok1 rs post => ?_)⟩
  split at post
  · rename_i hl
    refine ⟨by rw [reps_length rs, sizeLine_eq]; exact hl, fun q hq => ?_⟩
    obtain ⟨o1, o2⟩ := new_list ok1 hq rs
    exact post.ok o1 o2
  · exact post.elim
theorem di_tup {x1} (h : DA M W X es fa) : DI M W X (.Tuple es x1 pos) (fTup fa) := by
  obtain ⟨t, p, h⟩ := h
  refine ⟨_, pe_tup p, fun c F H σ δ Q ok post => h c F H σ δ _ ok (Post.bind post fun ds δ1 vs F1 H1 _ s ok1 rs post => ?_)⟩
  split at post
  · rename_i hl
    refine ⟨by rw [reps_length rs, sizeLine_eq]; exact hl, fun q hq => ?_⟩
    obtain ⟨F', g, o1, o2⟩ := new_tup ok1 hq rs
    exact post _ F' _ g o1 o2
  · exact post.elim
theorem call_divmodP {X : Cx} : CallR X (.builtin "divmod") (fun xs H Q => ∃ i j, xs = [.int i, .int j] ∧ CDivP i j ∧ ∀ p, H p = none → Q (.ref p) (upd H p (.tup [.int (i / j), .int (i % j)]))) := call_divmodW
theorem cd_divmod : CallD M (fun xs H Q => ∃ i j, xs = [.int i, .int j] ∧ CDivP i j ∧ ∀ p, H p = none → Q (.ref p) (upd H p (.tup [.int (i / j), .int (i % j)]))) gDivmod := by
  intro c F H σ δ xs ds z Q ok pxs e q
  unfold gDivmod at e
  split at e
  · rename_i i j
    split at e
    · rename_i hc
      cases e
      obtain ⟨h1, h2⟩ := of_decide_eq_true hc
      obtain ⟨x, y, rfl, px, py⟩ := p2 pxs
      cases prep_int px
      cases prep_int py
      refine ⟨_, _, rfl, ⟨h1, PyProof.noPylong_of_log2 h2⟩, fun p hp => ?_⟩
      obtain ⟨F', g, o1, o2⟩ := new_tup ok hp (ds := [.int (i / j), .int (i % j)]) (reps_cons (rep_int' _) (reps_cons (rep_int' _) reps_nil))
      exact q _ F' _ g o1 o2
    · cases e
  · cases e
end
abbrev FO := Sl → Res (Option Int)
abbrev ρO : Hp → Hp → Sl → Option Int → Option Int → Prop := fun _ _ _ a b => a = b
def DO (M : Gm) (W : WX) (X : Cx) (e : Option Expr) (f : FO) : Prop := ∃ t, PO X e t ∧ ∀ (c : Cn M) F H σ δ Q, Ok c F H σ δ → Post c W F σ ρO (f δ) Q → t σ H Q
def oNone : FO := fun δ => .ok none δ
def oSome (f : FD) : FO := fun δ => (f δ).bind fun d δ => match d with
  | .int i => .ok (some i) δ
  | _ => .bad
def cutD (xs : List D) (lo hi : Option Int) : List D := (xs.drop (HT.sIx xs.length 0 lo)).take (HT.sIx xs.length xs.length hi - HT.sIx xs.length 0 lo)
def gSl : D → Option Int → Option Int → Option R
  | .lst xs, lo, hi => some (.own (.l (cutD xs lo hi)))
  | .tup xs, lo, hi => if HT.sIx xs.length 0 lo = 0 ∧ HT.sIx xs.length xs.length hi = xs.length then none else some (.imm (.tup (cutD xs lo hi)))
  | _, _, _ => none
def fSl (fe : FD) (fl fh : FO) : FE := fun δ => (fe δ).bind fun d δ => (fl δ).bind fun lo δ => (fh δ).bind fun hi δ => match gSl d lo hi with
  | some r => .ok r δ
  | none => .bad
def fSlV (i : Nat) (fl fh : FO) : FE := fun δ => if there δ i then (fl δ).bind fun lo δ => (fh δ).bind fun hi δ => (vP i δ).bind fun d δ => match gSl d lo hi with
  | some r => .ok r δ
  | none => .bad
  else .bad
section
variable {M : Gm} {c : Cn M} {W : WX} {X : Cx} {e : Expr} {lo hi : Option Expr} {pos p2 : Pos}
theorem do_none : DO M W X none oNone := ⟨_, po_none, fun c F H σ δ Q ok post => post.ok ok rfl⟩
theorem do_some {f : FD} (h : DI M W X e f) : DO M W X (some e) (oSome f) := by
  obtain ⟨t, p, h⟩ := h
  refine ⟨_, po_some p, fun c F H σ δ Q ok post => h c F H σ δ _ ok (Post.bind post fun d δ1 v F1 H1 _ s ok1 r post => ?_)⟩
  split at post
  · rename_i i _
    have ev : v = .int i := by unfold ρD rep at r; exact r
    exact ⟨i, ev, post.ok ok1 rfl⟩
  · exact post.elim
theorem sl_of (hK : X.K = M.K) {F H : Hp} {σ : St} {δ : Sl} {x : V} {d : D} {l u : Option Int} {Q : VK} (ok : Ok c F H σ δ) (px : prep M F H d x)
    (post : Post c W F σ (ρR c σ) (match gSl d l u with | some r => .ok r δ | none => .bad) Q) : rSlL X.K x l u H Q ∨ rSlT X.K x l u H Q := by
  unfold gSl at post
  split at post
  · rename_i r e
    split at e
    · cases e
      rename_i xs
      obtain ⟨a, vs, rfl, h2, h3⟩ := prep_lst ok.same px
      refine .inl ⟨a, vs, rfl, SqL.of h2, fun p hp => ?_⟩
      have : reps M F (cutD xs l u) (cutV vs l u) := by
        unfold cutD cutV
        rw [reps_length h3]
        exact reps_take _ (reps_drop _ h3)
      obtain ⟨o1, o2⟩ := new_list ok hp this
      exact post.ok o1 o2
    · split at e
      · cases e
      · rename_i xs hn
        cases e
        obtain ⟨a, vs, rfl, h2, h3⟩ := prep_tup ok.same px
        refine .inr ⟨a, vs, rfl, by rw [hK]; exact h2, by rw [reps_length h3]; exact hn, fun p hp => ?_⟩
        have : reps M F (cutD xs l u) (cutV vs l u) := by
          unfold cutD cutV
          rw [reps_length h3]
          exact reps_take _ (reps_drop _ h3)
        obtain ⟨F', g, o1, o2⟩ := new_tup ok hp this
        exact post _ F' _ g o1 o2
    · cases e
  · exact post.elim
theorem de_sl {fe : FD} {fl fh : FO} (h : DI M W X e fe) (hl : DO M W X lo fl) (hh : DO M W X hi fh) (hK : X.K = M.K := by rfl) : DE M W X (.Subscript e (.Slice lo hi none p2) pos) (fSl fe fl fh) := by
  obtain ⟨t, p, h⟩ := h
  obtain ⟨tl, pl, hl⟩ := hl
  obtain ⟨th, ph, hh⟩ := hh
  refine ⟨_, pe_slice (SlR.or sl_list sl_tup) p pl ph, fun c F H σ δ Q ok post => h c F H σ δ _ ok (Post.bind post fun d δ1 v F1 H1 _ s1 ok1 r post => hl c F1 H1 σ δ1 _ ok1 (Post.bind post fun l δ2 l' F2 H2 _ s2 ok2 el post => hh c F2 H2 σ δ2 _ ok2 (Post.bind post fun u δ3 u' F3 H3 _ s3 ok3 eu post => ?_)))⟩
  cases (show l = l' from el)
  cases (show u = u' from eu)
  exact sl_of hK ok3 (.inl (rep_mono (s2.trans s3) _ _ r)) post
def rgD (a b : Int) : List D := (List.range (b - a).toNat).map fun i => D.int (a + (i : Nat))
theorem rgD_v {M : Gm} {F : Hp} (a b : Int) : reps M F (rgD a b) (rgV a b) := by
  unfold rgD rgV
  generalize List.range (b - a).toNat = l
  induction l with
  | nil => exact reps_nil
  | cons x r ih => exact reps_cons (rep_int' _) ih
def rgOkB (a b : Int) : Bool := gd (-4611686018427387904 ≤ a ∧ a < 4611686018427387904 ∧ -4611686018427387904 ≤ b ∧ b < 4611686018427387904 ∧ (b - a).toNat ≤ 16777216)
theorem rgOkB_ok {a b : Int} (h : rgOkB a b = true) : RgOk a b := by
  obtain ⟨h1, h2, h3, h4, h5⟩ := of_gd h
  exact ⟨by omega, by omega, by omega, by omega, h5⟩
def fLRg1 (f : FD) : FE := fun δ => (f δ).bind fun d δ => match d with
  | .int n => if rgOkB 0 n then .ok (.own (.l (rgD 0 n))) δ else .bad
  | _ => .bad
theorem de_lrg1 {a : Expr} {f : FD} {p q pos q2 : Pos} (hc : X.calm = true) (hg : Gl X "list") (hm : X.mg "list" = none) (hg2 : Gl X "range") (hm2 : X.mg "range" = none) (h : DI M W X a f)
    (na : starEach [.Call (.Name "range" q) [a] [] q2] X.env = (false, eval (.Call (.Name "range" q) [a] [] q2) X.env) :: starEach [] X.env := by rfl) (na2 : starEach [a] X.env = (false, eval a X.env) :: starEach [] X.env := by rfl) :
    DE M W X (.Call (.Name "list" p) [.Call (.Name "range" q) [a] [] q2] [] pos) (fLRg1 f) := by
  obtain ⟨t, pp, h⟩ := h
  refine ⟨_, pe_listRg hc hg hm (prg_1 hg2 hm2 pp na2) na, fun c F H σ δ Q ok post => h c F H σ δ _ ok (Post.bind post fun d δ1 v F1 H1 _ s1 ok1 r post => ?_)⟩
  split at post
  · rename_i n _
    split at post
    · rename_i hk
      have ev : v = .int n := by unfold ρD rep at r; exact r
      refine ⟨n, ev, rgOkB_ok hk, fun q hq => ?_⟩
      obtain ⟨o1, o2⟩ := new_list ok1 hq (rgD_v 0 n)
      exact post.ok o1 o2
    · exact post.elim
  · exact post.elim
end
abbrev RM := V → List V → Hp → VK → Prop
def MutD (M : Gm) (r : RM) (m : List D → List D → Option (D × List D)) : Prop := ∀ (F H : Hp) (a : Addr) (vs xs : List V) (ds as : List D) (z : D) (ds' : List D) (Q : VK), Same F H → F a = none → H a = some (.lst vs) → reps M F ds vs → reps M F as xs →
  m ds as = some (z, ds') → (∀ v vs', rep M F z v → reps M F ds' vs' → Q v (upd H a (.lst vs'))) → r (.ref a) xs H Q
def getL (δ : Sl) (i : Nat) : Option (List D) := match δ[i]? with
  | some (some (.own (.l ds))) => some ds
  | some (some (.brw (.l ds))) => some ds
  | _ => none
def fMut (i : Nat) (m : List D → List D → Option (D × List D)) (fa : FA) : FD := fun δ => match getL δ i with
  | none => .bad
  | some _ => (fa δ).bind fun as δ1 => match getL δ1 i with
    | none => .bad
    | some ds => match m ds as with
      | none => .bad
      | some (z, ds') => .ok z (match δ1[i]? with
        | some (some (.own _)) => δ1.set i (some (.own (.l ds')))
        | _ => δ1.set i (some (.brw (.l ds'))))
section
variable {M : Gm} {c : Cn M} {W : WX} {X : Cx}
theorem getL_at {F H : Hp} {σ : St} {δ : Sl} {i : Nat} {ds : List D} (ok : Ok c F H σ δ) (h : getL δ i = some ds) : ∃ a vs, σ[i]? = some (some (.ref a)) ∧ F a = none ∧ H a = some (.lst vs) ∧ reps M F ds vs ∧ (δ[i]? = some (some (.own (.l ds))) ∨ δ[i]? = some (some (.brw (.l ds)))) := by
  unfold getL at h
  split at h
  · rename_i ds0 q
    cases h
    obtain ⟨v, e1, a, rfl, h1, h2, vs, h3, h4⟩ := ok.slot i _ q
    exact ⟨a, vs, e1, h1, h3, h4, .inl q⟩
  · rename_i ds0 q
    cases h
    obtain ⟨v, e1, a, rfl, h1, h2, vs, h3, h4⟩ := ok.slot i _ q
    exact ⟨a, vs, e1, h1, h3, h4, .inr q⟩
  · cases h
theorem putL_ok {F H : Hp} {σ : St} {δ : Sl} {i : Nat} {ds ds' : List D} {a : Addr} {vs' : List V} (ok : Ok c F H σ δ) (ea : σ[i]? = some (some (.ref a))) (hd : δ[i]? = some (some (.own (.l ds))) ∨ δ[i]? = some (some (.brw (.l ds)))) (r : reps M F ds' vs') :
    Ok c F (upd H a (.lst vs')) σ (match δ[i]? with
        | some (some (.own _)) => δ.set i (some (.own (.l ds')))
        | _ => δ.set i (some (.brw (.l ds')))) := by
  rcases hd with q | q
  · rw [q]
    exact ok.write (ob := .l ds) (ob' := .l ds') q (.inl ⟨rfl, rfl⟩) ea ⟨vs', upd_same, r⟩
  · rw [q]
    exact ok.write (ob := .l ds) (ob' := .l ds') q (.inr ⟨rfl, rfl⟩) ea ⟨vs', upd_same, r⟩
theorem d_mut {e o : Expr} {es : List Expr} {i : Nat} {r : RM} {m : List D → List D → Option (D × List D)} {fa : FA} (mk : ∀ {t : TA}, PA X es t → PE X e (tBM X.K "list" r (tVar i) t)) (hd : MutD M r m) (ha : DA M W X es fa) : DI M W X e (fMut i m fa) := by
  obtain ⟨t, p, h⟩ := ha
  refine ⟨_, mk p, fun c F H σ δ Q ok post => ?_⟩
  unfold fMut at post
  split at post
  · exact post.elim
  · rename_i ds0 q0
    obtain ⟨a, vs, ea, _, hl, _, _⟩ := getL_at ok q0
    refine ⟨.ref a, ea, .inl ⟨rfl, vs, SqL.of hl⟩, h c F H σ δ _ ok (Post.bind post fun as δ1 xs F1 H1 _ s1 ok1 rs post => ?_)⟩
    split at post
    · exact post.elim
    · rename_i ds q1
      obtain ⟨a', vs', ea', hf', hl', hr', hs'⟩ := getL_at ok1 q1
      rw [ea] at ea'; cases ea'
      split at post
      · exact post.elim
      · rename_i z ds' q2
        exact hd F1 H1 a vs' xs ds as z ds' Q ok1.same hf' hl' hr' rs q2 fun v vs2 rv rv2 => post.ok (putL_ok ok1 ea hs' rv2) rv
def mAppend : List D → List D → Option (D × List D)
  | ds, [d] => if ds.length < 16777216 then some (.non, ds ++ [d]) else none
  | _, _ => none
theorem md_append : MutD M rAppend mAppend := by
  intro F H a vs xs ds as z ds' Q s hf hl hr ha e q
  unfold mAppend at e
  split at e
  · split at e
    · rename_i d hlen
      cases e
      obtain ⟨v, r, rfl, h2, h3⟩ := (show ∃ v r, xs = v :: r ∧ rep M F d v ∧ reps M F [] r by unfold reps at ha; exact ha)
      unfold reps at h3
      subst h3
      exact ⟨a, vs, v, rfl, rfl, hl, by rw [reps_length hr, sizeLine_eq]; exact hlen, q _ _ rep_non' (reps_append hr (reps_cons h2 reps_nil))⟩
    · cases e
  · cases e
def mPop : List D → List D → Option (D × List D)
  | ds, [] => (ds[ds.length - 1]?).map fun d => (d, ds.dropLast)
  | ds, [.int i] => if gd (0 ≤ i ∧ i < ds.length ∧ i < 9223372036854775808) then (ds[i.toNat]?).map fun d => (d, ds.eraseIdx i.toNat) else none
  | _, _ => none
theorem reps_erase {M : Gm} {F : Hp} : ∀ {ds : List D} {vs : List V} (i : Nat), reps M F ds vs → reps M F (ds.eraseIdx i) (vs.eraseIdx i)
  | [], vs, i, h => by unfold reps at h; subst h; simp [reps]
  | d :: ds, vs, 0, h => by
    unfold reps at h
    obtain ⟨v, r, rfl, h2, h3⟩ := h
    exact h3
  | d :: ds, vs, i + 1, h => by
    unfold reps at h
    obtain ⟨v, r, rfl, h2, h3⟩ := h
    exact reps_cons h2 (reps_erase i h3)
theorem reps_dropLast {M : Gm} {F : Hp} {ds : List D} {vs : List V} (h : reps M F ds vs) : reps M F ds.dropLast vs.dropLast := by
  rw [List.dropLast_eq_take, List.dropLast_eq_take, reps_length h]
  exact reps_take _ h
def rPopAll : RM := fun x vs H Q => rPop x vs H Q ∨ rPopAt x vs H Q
theorem mt_popAll : MtM X "list.pop" rPopAll := fun pins s σ H x xs v us Q I rx rs h => h.elim (mt_pop pins s σ H x xs v us Q I rx rs) (mt_popAt pins s σ H x xs v us Q I rx rs)
theorem md_pop : MutD M rPopAll mPop := by
  intro F H a vs xs ds as z ds' Q s hf hl hr ha e q
  unfold mPop at e
  split at e
  · obtain ⟨d, e1, e2⟩ := Option.map_eq_some_iff.mp e
    cases e2
    unfold reps at ha
    subst ha
    obtain ⟨v, e3, e4⟩ := reps_get hr e1
    exact .inl ⟨a, vs, v, rfl, rfl, hl, by rw [reps_length hr]; exact e3, q _ _ e4 (reps_dropLast hr)⟩
  · rename_i i
    split at e
    · rename_i hc
      obtain ⟨h0, h1, h2⟩ := of_gd hc
      obtain ⟨d, e1, e2⟩ := Option.map_eq_some_iff.mp e
      cases e2
      obtain ⟨v, r, rfl, k2, k3⟩ := (show ∃ v r, xs = v :: r ∧ rep M F (.int i) v ∧ reps M F [] r by unfold reps at ha; exact ha)
      unfold reps at k3
      subst k3
      unfold rep at k2
      subst k2
      obtain ⟨w, e3, e4⟩ := reps_get hr e1
      refine .inr ⟨a, vs, i, i.toNat, w, rfl, rfl, hl, by omega, by omega, ?_, e3, q _ _ e4 (reps_erase _ hr)⟩
      rw [reps_length hr]
      exact seqIndex_of h0 h1
    · cases e
  · cases e
end
end
end TS

namespace TS
open PySem L2
noncomputable section
structure Room (k : Nat) (A : Around) : Prop where
  lo : L2.Room k A
  gu : A.guards = some []
theorem Room.mono {j k : Nat} {A : Around} (r : Room k A) (h : j ≤ k) : Room j A := ⟨L2.Room.mono r.lo h, r.gu⟩
theorem Room.deeper {k : Nat} {A : Around} (r : Room (k + 1) A) (env : Env) : Room k (A.deeper env) := ⟨L2.Room.deeper r.lo env, r.gu⟩
theorem Room.in1 {k : Nat} {A : Around} (r : Room (k + 1) A) : Room k A.in1 := ⟨L2.Room.in1 r.lo, r.gu⟩
theorem Room.make {k : Nat} {A : Around} (r : Room (k + 1) A) (C : Addr) (us : List Value) (kw : List (Str × Value)) : Room k (A.under (.builtin "type.__call__" ⟨.ref C :: us, kw⟩)) := by
  refine ⟨L2.Room.make r.lo C us kw, ?_⟩
  have e : (Code.builtin "type.__call__" ⟨.ref C :: us, kw⟩).isGuard = false := by
    show guardIds.contains "type.__call__" = false
    decide +kernel
  simp [Around.under, Code.guards, e, pushGuards, r.gu]
theorem Room.hd {k : Nat} {A : Around} (r : Room k A) : A.handled = none := r.lo.hd
theorem Room.depth {k : Nat} {A : Around} (r : Room k A) : A.depth < recursionLimit := L2.Room.depth r.lo
theorem Room.units {k : Nat} {A : Around} (r : Room k A) : A.units + 64 < cLine := L2.Room.units r.lo
theorem hu_of {A : Around} {k : Nat} (hr : Room k A) : A.units + 1 < cLine := L2.hu_of hr.lo
def FnR (P : Program) (w : World) (K : PySem.W.Frag) (mg : Str → Option Value) (base : Heap) (CX : CXT) (k : Nat) (f : Addr) (sp : Sp) : Prop :=
  ∀ (A : Around) (outer : List Env) (s : Shared) (H : Hp) (us : List Value) (vs : List V) (Q : VK) (E : XK), Room k A → Env0 P w K mg base A outer s H → Vals vs us → sp vs H Q E → codeAny (model P w) A (.call (.ref f) ⟨us, []⟩) (CR CX outer P w H s Q E) s
structure FnOk (P : Program) (w : World) (K : PySem.W.Frag) (mg : Str → Option Value) (base : Heap) (CX : CXT) (k : Nat) (f : Addr) (fd : FuncData) (ps : List Str) (sp : Sp) : Prop where
  len : ∀ vs H Q E, sp vs H Q E → vs.length = ps.length
  run : ∀ (A : Around) (outer : List Env) (s : Shared) (H : Hp) (args : Args) (us : List Value) (vs : List V) (Q : VK) (E : XK), Room k A → Env0 P w K mg base A outer s H → BindsTo s fd args (ps.zip us) → Vals vs us → sp vs H Q E → codeAny (model P w) A (.call (.ref f) args) (CR CX outer P w H s Q E) s
section
variable {P : Program} {w : World} {K : PySem.W.Frag} {mg : Str → Option Value} {base : Heap} {CX : CXT} {j k : Nat} {f : Addr} {fd : FuncData} {ps : List Str} {sp sp' : Sp}
theorem FnR.mono (F : FnR P w K mg base CX j f sp) (h : j ≤ k) : FnR P w K mg base CX k f sp := fun A outer s H us vs Q E hr e0 => F A outer s H us vs Q E (Room.mono hr h) e0
theorem FnR.imp (F : FnR P w K mg base CX k f sp) (h : ∀ vs H Q E, sp' vs H Q E → sp vs H Q E) : FnR P w K mg base CX k f sp' := fun A outer s H us vs Q E hr e0 rv hs => F A outer s H us vs Q E hr e0 rv (h vs H Q E hs)
theorem FnOk.mono (F : FnOk P w K mg base CX j f fd ps sp) (h : j ≤ k) : FnOk P w K mg base CX k f fd ps sp where
  len := F.len
  run := fun A outer s H args us vs Q E hr => F.run A outer s H args us vs Q E (Room.mono hr h)
theorem FnOk.raw {ds : List Value} {dvs : List V} (F : FnOk P w K mg base CX k f fd ps sp) (hb : Binds K fd ps ds) (hd : Vals dvs ds) : FnR P w K mg base CX k f (fun vs H Q E => sp (vs ++ dvs) H Q E) := by
  intro A outer s H us vs Q E hr e0 rv hs
  have rr := rv.append hd
  have lr : (us ++ ds).length = ps.length := rr.length.symm.trans (F.len _ _ _ _ hs)
  have kin : K.In s.heap := e0.mod.kin.keeps fun b o e => (e0.bs b o e).1
  exact F.run A outer s H ⟨us, []⟩ (us ++ ds) (vs ++ dvs) Q E hr e0 (hb s us kin lr) rr hs
def CodeAt (K : PySem.W.Frag) (f : Addr) (x qual : Str) (params : Arguments) (body : List Stmt) (scope : Scope) (cdv : Value) : Prop := ∃ (oc : Value) (od : Option Addr) (dV kV doc pm ct : Value) (an : Option Addr) (osl : Array (Option Value)), K.lookup f = some ⟨oc, od, .func (PySem.W.fnOf x qual params body scope dV kV doc pm an cdv ct), osl⟩
theorem FnOk.ofC {x qual : Str} {params : Arguments} {body : List Stmt} {scope : Scope} {dvs : List V} {kws : List (Str × V)} {N : List Str} (F : FunD K x qual params body scope dvs kws f fd) (S : FnScope N ps scope) (len : ∀ vs H Q E, sp vs H Q E → vs.length = ps.length)
    (hb : ∀ (cdv : Value), CodeAt K f x qual params body scope cdv → ∀ (A : Around) (outer : List Env) (s : Shared) (H : Hp) (vs : List V) (Q : VK) (E : XK), Room k (A.deeper (PyProof.Rows.envOfC qual scope s.heap.objs.size f cdv)) → sp vs H Q E →
      ∃ t, PSs (cxOf CX P w K mg base N qual scope f cdv A outer s H E) body t ∧ t { rt := Q, nx := fun _ H' => Q .non H' } (start N vs) H) : FnOk P w K mg base CX (k + 1) f fd ps sp := by
  obtain ⟨oc, od, dV, kV, doc, pm, an, cdv, ct, osl, rfl, lk, hcd, _, _⟩ := F.ex
  refine ⟨len, ?_⟩
  intro A outer s H args us vs Q E hr e0 hbn rv hs
  have kin : K.In s.heap := e0.mod.kin.keeps fun b o e => (e0.bs b o e).1
  have nl : s.heap.NoLimit := e0.mod.nolimit.keeps fun b o e => (e0.bs b o e).1
  have kinds : ∀ y ∈ ps.zip us, scope.names.lookup y.1 = some .local ∨ (scope.names.lookup y.1 = some .cell ∧ ((cellsFrom (s.heap.objs.size + 1) scope.names []).lookup y.1).isSome = true) := by
    rintro ⟨n, v⟩ hy
    have := S.par n (List.of_mem_zip hy).1
    exact this.elim Or.inl fun q => Or.inr ⟨q, PySem.W.cellsFrom_some _ _ _ (Or.inl q)⟩
  refine codeAny_call_function hr.depth (kin _ _ lk) rfl S.co S.gen rfl (PySem.W.codeRec_of kin hcd) (hbn _ _ _ _ (PySem.wpAny_newFunctionEnv_cells S.kind kinds ?_))
  rintro env rfl s1 x1
  refine ⟨nl.keeps x1.toInCall.keep, codeAny_func ?_⟩
  obtain ⟨t, pt, ht⟩ := hb cdv ⟨oc, od, dV, kV, doc, pm, ct, an, osl, lk⟩ A outer s H vs Q E (Room.deeper hr _) hs
  have I1 := inv_start (CX := CX) (E := E) S hr.hd e0 (len _ _ _ _ hs) rv x1
  refine wpAny_mono (pt.run [] s1 _ H _ I1 ht) (fun fl s2 z => ?_) fun _ _ z => z
  cases fl with
  | ret u => obtain ⟨v, σ2, H2, J, ru, q⟩ := z; exact ⟨v, H2, J.os, J.bare, J.base, J.hok, ru, q⟩
  | next => obtain ⟨σ2, H2, J, q⟩ := z; exact ⟨V.non, H2, J.os, J.bare, J.base, J.hok, rfl, q⟩
  | brk => obtain ⟨_, _, _, q⟩ := z; exact q.elim
  | cont => obtain ⟨_, _, _, q⟩ := z; exact q.elim
theorem FnOk.of {x qual : Str} {params : Arguments} {body : List Stmt} {scope : Scope} {dvs : List V} {kws : List (Str × V)} {N : List Str} (F : FunD K x qual params body scope dvs kws f fd) (S : FnScope N ps scope) (len : ∀ vs H Q E, sp vs H Q E → vs.length = ps.length)
    (hb : ∀ (cdv : Value) (A : Around) (outer : List Env) (s : Shared) (H : Hp) (vs : List V) (Q : VK) (E : XK), Room k (A.deeper (PyProof.Rows.envOfC qual scope s.heap.objs.size f cdv)) → sp vs H Q E →
      ∃ t, PSs (cxOf CX P w K mg base N qual scope f cdv A outer s H E) body t ∧ t { rt := Q, nx := fun _ H' => Q .non H' } (start N vs) H) : FnOk P w K mg base CX (k + 1) f fd ps sp := FnOk.ofC F S len fun cdv _ => hb cdv
end
abbrev CXX (X : Cx) : CXT := L2.CX X.prog X.w
section
variable {X : Cx} {W : WX} {pins : List (Addr × Obj)} {σ : St} {H : Hp} {s : Shared}
theorem run_fnRS {k : Nat} {f : Addr} {sp : Sp} {Q : VK} {us : List Value} {vs : List V} (F : FnR X.prog X.w X.K X.mg X.base (CXX X) k f sp) (hr : Room k X.A) (tk : Takes X W) (I : Inv X pins σ H s) (r : Vals vs us) (h : sp vs H Q (WE W σ)) :
    codeAny (model X.prog X.w) X.A (.call (.ref f) ⟨us, []⟩) (fun r s' => match r with | .ok (.ret v) => EP X pins σ Q v s' | .ok _ => False | .error e => X.xe e s') s := by
  refine codeAny_mono (F X.A X.stack s H us vs Q (WE W σ) hr I.env0 r h) fun r s' hq => ?_
  cases r with
  | error e => exact passAt tk σ pins H s e s' I hq
  | ok fl =>
    cases fl with
    | ret u => exact I.after hq
    | next => exact False.elim hq
    | brk => exact False.elim hq
    | cont => exact False.elim hq
theorem run_makeRS {k : Nat} {f C : Addr} {sp : Sp} {Q : VK} {us : List Value} {vs : List V} (M : Mk X.K C f) (F : FnR X.prog X.w X.K X.mg X.base (CXX X) k f sp) (hr : Room (k + 1) X.A) (tk : Takes X W) (I : Inv X pins σ H s) (r : Vals vs us)
    (h : ∀ x dx, H x = Option.none → H dx = Option.none → dx ≠ x → sp (V.ref x :: vs) (upd (upd H dx (.own x)) x (.ins C dx [])) (fun v H2 => v = .non ∧ Q (.ref x) H2) (WE W σ)) :
    wpAny (model X.prog X.w) X.A (call (.ref C) us) (EP X pins σ Q) X.xe s := by
  have hq := h (s.heap.objs.size + 1) s.heap.objs.size (I.hok.fresh (Nat.le_succ _)) (I.hok.fresh (Nat.le_refl _)) (Nat.ne_of_lt (Nat.lt_succ_self _))
  have I2 := Inv.made (C := C) I
  have r2 : Vals (V.ref (s.heap.objs.size + 1) :: vs) (Value.ref (s.heap.objs.size + 1) :: us) := .cons rfl r
  refine wpAny_call (make_map (f := f) I.kIn M.makes M.init (beq_iff_eq.mp M.fn) (codeAny_mono (F _ X.stack _ _ (Value.ref (s.heap.objs.size + 1) :: us) _ _ (WE W σ) (hr.make C us []) (I2.env0.make C us []) r2 hq) fun r s' hq' => ?_))
  cases r with
  | error e => exact passAt tk σ pins _ _ e s' I2 hq'
  | ok fl =>
    cases fl with
    | ret u =>
      obtain ⟨v, H', I3, rv, ev, q3⟩ := I2.after hq'
      subst ev
      exact ⟨rv, ⟨V.ref (s.heap.objs.size + 1), H', I3, rfl, q3⟩⟩
    | next => exact False.elim hq'
    | brk => exact False.elim hq'
    | cont => exact False.elim hq'
end
section
variable {X : Cx} {W : WX} {k : Nat} {f C : Addr} {sp : Sp} {x m : Str} {e o : Expr} {es : List Expr} {ta : TE} {t : TA} {p pos apos : Pos}
def tOwn (W : WX) (sp : Sp) (t : TA) : TE := fun σ H Q => t σ H fun vs H1 => sp vs H1 Q (WE W σ)
theorem pe_own (F : FnR X.prog X.w X.K X.mg X.base (CXX X) k f sp) (hr : Room k X.A) (tk : Takes X W) (hg : Gl X x) (hm : X.mg x = some (.ref f)) (hk : PySem.W.keepIn X.K (.ref f) = true) (ha : PA X (e :: es) t)
    (hdb : (x == ("__debug__" : Str)) = false := by decide) (he : starEach (e :: es) X.env = (false, eval e X.env) :: starEach es X.env := by rfl) (hpl : (backTo pos (starEach es X.env)).any (·.1) = false := by rfl) :
    PE X (.Call (.Name x p) (e :: es) [] pos) (tOwn W sp t) := by
  refine ⟨fun pins s σ H Q I h => ?_⟩
  refine wpAny_Call_Name_kw (ld_glob I hg hm ?_ hdb)
  refine PySem.W.callWith_K (h₀ := X.base) I.ok.mod.kin hk (thn (ha.run pos pins s σ H _ I h) fun us s1 ⟨vs, H1, I1, r, q⟩ => ⟨I1.kIn, ?_⟩) he hpl
  exact wpAny_call (run_fnRS F hr tk I1 r q)
def tMakeS (W : WX) (C : Addr) (sp : Sp) (t : TA) : TE := fun σ H Q => t σ H fun vs H1 => ∀ x dx, H1 x = Option.none → H1 dx = Option.none → dx ≠ x →
  sp (V.ref x :: vs) (upd (upd H1 dx (.own x)) x (.ins C dx [])) (fun v H2 => v = .non ∧ Q (.ref x) H2) (WE W σ)
theorem pe_makeS (M : Mk X.K C f) (F : FnR X.prog X.w X.K X.mg X.base (CXX X) k f sp) (hr : Room (k + 1) X.A) (tk : Takes X W) (hg : Gl X x) (hm : X.mg x = some (.ref C)) (ha : PA X (e :: es) t) (hdb : (x == ("__debug__" : Str)) = false := by decide)
    (he : starEach (e :: es) X.env = (false, eval e X.env) :: starEach es X.env := by rfl) (hpl : (backTo pos (starEach es X.env)).any (·.1) = false := by rfl) : PE X (.Call (.Name x p) (e :: es) [] pos) (tMakeS W C sp t) := by
  refine ⟨fun pins s σ H Q I h => ?_⟩
  refine wpAny_Call_Name_kw (ld_glob I hg hm ?_ hdb)
  refine PySem.W.callWith_K (h₀ := X.base) I.ok.mod.kin M.kp (thn (ha.run pos pins s σ H _ I h) fun us s1 ⟨vs, H1, I1, r, q⟩ => ⟨I1.kIn, ?_⟩) he hpl
  exact run_makeRS M F hr tk I1 r q
def tMethD (W : WX) (ok : Addr → Sp → Prop) (m : Str) (ta : TE) (t : TA) : TE := fun σ H Q => ta σ H fun x H1 => ∃ a C dx fs sp, x = .ref a ∧ H1 a = some (.ins C dx fs) ∧ ok C sp ∧ fs.lookup m = none ∧ t σ H1 fun vs H2 => sp (x :: vs) H2 Q (WE W σ)
structure MethOk (X : Cx) (k : Nat) (m : Str) (ok : Addr → Sp → Prop) : Prop where
  at_ : ∀ C sp, ok C sp → ∃ g, Cls X.K C ∧ Meth X.K C m g ∧ FnR X.prog X.w X.K X.mg X.base (CXX X) k g sp
theorem pe_methD0 {ok : Addr → Sp → Prop} {pl : Sem Bool} (he : PE X o ta) (T : MethOk X k m ok) (hr : Room k X.A) (tk : Takes X W)
    (ht : eval (.Call (.Attribute o m apos) [] [] pos) X.env = (do
      let ov ← eval o X.env
      standAt apos.atName
      let (f, first) ← holding [ov] (getMethod ov m pl)
      callWith pos f first (backTo pos (starEach [] X.env)) (backToKw pos (keywordEach [] X.env))) := by rfl) :
    PE X (.Call (.Attribute o m apos) [] [] pos) (tMethD W ok m ta tNil) := by
  refine ⟨fun pins s σ H Q I h => ?_⟩
  refine PySem.W.methodCall_KW (pl := pl) (thn (he.run pins s σ H _ I h) fun u s1 ⟨x, H1, I1, rx, a, C, dx, fs, sp, ex, ea, hok, l, q⟩ => ?_) ht
  obtain ⟨g, c, hm, F⟩ := T.at_ C sp hok
  subst ex
  obtain rfl : u = Value.ref a := rx
  refine getmeth_ok I1 ea c hm l ?_
  exact PySem.W.callWith_K0 (first := [.ref a]) I1.kIn hm.kp (wpAny_call (run_fnRS (us := [.ref a]) (vs := [.ref a]) F hr tk I1 (.cons rfl .nil) q))
end
section
variable {M : Gm} {c : Cn M} {F F' H H' : Hp} {σ : St} {δ δ' : Sl}
theorem Ok.stpTmp (ok : Ok c F H σ δ) {x : Addr} (hx : c.H0 x = none) (hns : ∀ (i : Nat) (r : R), δ[i]? = some (some r) → r.mu = true → σ[i]? ≠ some (some (V.ref x))) (st : Stp M F H F' H' (some x)) : Ok c F' H' σ δ := by
  have hio : c.io ≠ some x := fun z => c.iob x z hx
  have kp : ∀ b o, b ≠ x → H b = some o → NT o → H' b = some o := fun b o hb e n => st.kept b o e n (fun z => hb (Option.some.inj z).symm)
  refine ⟨st.same, ok.grow.trans st.grow, fun b e1 e2 => ?_, fun b o e1 e2 => ?_, fun b e1 => ?_, st.tb, ok.len, fun i r e => ?_, ok.dist⟩
  · obtain ⟨u, k1, k2⟩ := ok.hn e1
    exact st.nofz b u k1 k2 (ok.nofz b e1 e2)
  · exact kp b o (fun z => by rw [z, hx] at e1; cases e1) (ok.kept b o e1 e2) (c.nt b o e1)
  · have hb : b ≠ x := fun z => hio (z ▸ e1)
    obtain ⟨o, q1, q2⟩ := ok.ioh b e1
    exact ⟨o, kp b o hb q1 q2, q2⟩
  · obtain ⟨v, s1, s2⟩ := ok.slot i r e
    refine ⟨v, s1, ?_⟩
    cases r with
    | imm d => exact rep_mono st.grow _ _ s2
    | own o =>
      obtain ⟨b, rfl, k1, k2, k3⟩ := s2
      obtain ⟨u, hu, hn⟩ := obAt_nt k3
      have hb : b ≠ x := fun z => hns i _ e rfl (by rw [s1, z])
      exact ⟨b, rfl, st.nofz b u hu hn k1, k2, obAt_mono st.grow ((kp b u hb hu hn).trans hu.symm) k3⟩
    | brw o =>
      obtain ⟨b, rfl, k1, k2, k3⟩ := s2
      obtain ⟨u, hu, hn⟩ := obAt_nt k3
      have hb : b ≠ x := fun z => hns i _ e rfl (by rw [s1, z])
      exact ⟨b, rfl, st.nofz b u hu hn k1, k2, obAt_mono st.grow ((kp b u hb hu hn).trans hu.symm) k3⟩
    | nst tp ps => exact slot_nst st.grow s2
theorem Ok.resR' (ok : Ok c F H σ δ) (hm : ∀ (j : Nat) (r : R), δ'[j]? = some (some r) → r.mu = true → ∃ r0, δ[j]? = some (some r0) ∧ r0.mu = true) {r : R} {v : V} (h : resAt M H F' H' r v) : repR c F' H' σ δ' r v := by
  cases r with
  | imm d => exact h
  | own o =>
    obtain ⟨a, rfl, h1, h2, h3⟩ := h
    refine ⟨a, rfl, h1, ok.h1 h2, h3, fun i r e m => ?_⟩
    obtain ⟨r0, e0, m0⟩ := hm i r e m
    exact ok.fresh1 h2 i r0 e0 m0
  | brw o => exact h
  | nst tp ps =>
    obtain ⟨a, vs, h1, h2, h3⟩ := h
    refine ⟨a, vs, h1, h2, fun b hb => ⟨(h3 b hb).1, ok.h1 (h3 b hb).2, fun i r e m => ?_⟩⟩
    obtain ⟨r0, e0, m0⟩ := hm i r e m
    exact ok.fresh1 (h3 b hb).2 i r0 e0 m0
theorem set_mu {i : Nat} {r r' : R} (e : δ[i]? = some (some r)) (h : r.mu = true) : ∀ (j : Nat) (q : R), (δ.set i (some r'))[j]? = some (some q) → q.mu = true → ∃ r0, δ[j]? = some (some r0) ∧ r0.mu = true := fun j q e1 m => by
  rcases getElem?_set_some e1 with ⟨rfl, _, _⟩ | ⟨_, e2⟩
  · exact ⟨r, e, h⟩
  · exact ⟨q, e2, m⟩
end
def outE (r : FR) (δ : Sl) : Res R := match r with
  | .ok r _ => .ok r δ
  | .exc x _ => .exc x δ
  | .bad => .bad
def fOwn (f : Fm) (fa : FA) : FE := fun δ => (fa δ).bind fun ds δ1 => outE (f none ds) δ1
def fOwnIo (f : Fm) (i : Nat) (fa : FA) : FE := fun δ => match δ[i]? with
  | some (some r0) => if r0.mu then (fa δ).bind fun ds δ1 => match δ1[i]? with
      | some (some (.own o)) => (match f (some o) ds with
        | .ok r (some o') => .ok r (δ1.set i (some (.own o')))
        | .exc x (some o') => .exc x (δ1.set i (some (.own o')))
        | _ => .bad)
      | some (some (.brw o)) => (match f (some o) ds with
        | .ok r (some o') => .ok r (δ1.set i (some (.brw o')))
        | .exc x (some o') => .exc x (δ1.set i (some (.brw o')))
        | _ => .bad)
      | _ => .bad
    else .bad
  | _ => .bad
def fOwnT (f : Fm) (fe : FE) : FE := fun δ => (fe δ).bind fun r δ1 => match r with
  | .own o => outE (f (some o) []) δ1
  | _ => .bad
def fMake (n : Nat) (f : Fm) (fa : FA) : FE := fun δ => (fa δ).bind fun ds δ1 => match f (some (.o n [])) ds with
  | .ok (.imm .non) (some (.o n' vs)) => if n' = n then .ok (.own (.o n vs)) δ1 else .bad
  | .exc x _ => .exc x δ1
  | _ => .bad
def fMakeL (n i : Nat) (f : Fm) (fa : FA) : FE := fun δ => match δ[i]? with
  | some (some (.imm (.cls n'))) => if n' = n then fMake n f fa δ else .bad
  | _ => .bad
def fMeth (tab : Nat → Option Fm) (fo : FD) (fa : FA) : FE := fun δ => (fo δ).bind fun d δ1 => match d with
  | .obj n vs => (match tab n with
    | some f => (fa δ1).bind fun ds δ2 => outE (f none (.obj n vs :: ds)) δ2
    | none => .bad)
  | _ => .bad
section
variable {M : Gm} {c : Cn M} {W : WX} {X : Cx} {e : Expr} {es : List Expr} {fa : FA} {f : Fm}
theorem own_of {F H : Hp} {σ : St} {δ : Sl} {vs : List V} {ds : List D} {Q : VK} (ok : Ok c F H σ δ) (rs : reps M F ds vs) (post : Post c W F σ (ρR c σ) (outE (f none ds) δ) Q) : spD M f vs H Q (WE W σ) := by
  refine ⟨F, none, 0, vs, ds, rfl, ok.same, ok.tb, rs, trivial, ?_⟩
  unfold outE at post
  cases q : f none ds with
  | ok r io => rw [q] at post; exact fun v F' H' st ra _ => post v F' H' st.grow (ok.stp st) (ok.resR st ra)
  | exc x io => rw [q] at post; exact fun cls d F' H' st xa _ => post cls d F' H' st.grow (ok.stp st) xa
  | bad => rw [q] at post; exact post
theorem make_of {n : Nat} {C : Addr} {F1 H1 : Hp} {σ : St} {δ1 : Sl} {vs : List V} {ds : List D} {Q : VK} (ok1 : Ok c F1 H1 σ δ1) (hG : M.G n = some C) (rs : reps M F1 ds vs)
    (post : Post c W F1 σ (ρR c σ) (match f (some (.o n [])) ds with
      | .ok (.imm .non) (some (.o n' vs)) => if n' = n then .ok (.own (.o n vs)) δ1 else .bad
      | .exc x _ => .exc x δ1
      | _ => .bad) Q) {x dx : Addr} (hx : H1 x = none) (hdx : H1 dx = none) (hne : dx ≠ x) :
    spD M f (V.ref x :: vs) (upd (upd H1 dx (.own x)) x (.ins C dx [])) (fun v H2 => v = .non ∧ Q (.ref x) H2) (WE W σ) := by
  have ok2 : Ok c F1 (upd H1 dx (.own x)) σ δ1 := ok1.alloc hdx
  have hx2 : (upd H1 dx (.own x)) x = none := by rw [upd_ne (Ne.symm hne)]; exact hx
  have ok3 : Ok c F1 (upd (upd H1 dx (.own x)) x (.ins C dx [])) σ δ1 := ok2.alloc hx2
  refine ⟨F1, some (.o n []), x, vs, ds, rfl, ok3.same, ok3.tb, rs, ⟨ok1.f hx, C, dx, [], hG, upd_same, rfl, reps_nil⟩, ?_⟩
  have h0 := ok1.h0 hx
  have hns := ok1.fresh hx
  cases q : f (some (.o n [])) ds with
  | bad => rw [q] at post; exact post
  | exc xx io => rw [q] at post; exact fun cls d F' H' st xa _ => post cls d F' H' st.grow (ok3.stpTmp h0 hns st) xa
  | ok r io =>
    rw [q] at post
    intro v F' H' st ra ia
    split at post
    · rename_i n' vs' e1
      cases e1
      split at post
      · rename_i hn
        subst hn
        have ev : v = .non := by
          have z : rep M F' .non v := ra
          unfold rep at z; exact z
        refine ⟨ev, post _ F' H' st.grow (ok3.stpTmp h0 hns st) ⟨x, rfl, ia.1, h0, ia.2, hns⟩⟩
      · exact post.elim
    · rename_i e1
      cases e1
    · exact post.elim
theorem d_own (mk : ∀ {t : TA}, PA X es t → PE X e (tOwn W (spD M f) t)) (ha : DA M W X es fa) : DE M W X e (fOwn f fa) := by
  obtain ⟨t, p, h⟩ := ha
  exact ⟨_, mk p, fun c F H σ δ Q ok post => h c F H σ δ _ ok (Post.bind post fun ds δ1 vs F1 H1 _ s ok1 rs post => own_of ok1 rs post)⟩
theorem d_ownIo {e0 : Expr} {i : Nat} (mk : ∀ {t : TA}, PA X (e0 :: es) t → PE X e (tOwn W (spD M f) t)) (h0 : PE X e0 (tVar i)) (ha : DA M W X es fa) (hs : starEach (e0 :: es) X.env = (false, eval e0 X.env) :: starEach es X.env := by rfl) : DE M W X e (fOwnIo f i fa) := by
  obtain ⟨t, p, h⟩ := ha
  refine ⟨_, mk (pa_cons h0 p hs), fun c F H σ δ Q ok post => ?_⟩
  unfold fOwnIo at post
  split at post
  · rename_i r0 q0
    split at post
    · rename_i hm0
      obtain ⟨a, ob0, ea, _, _, _⟩ := ok.mus q0 hm0
      refine ⟨.ref a, ea, h c F H σ δ _ ok (Post.bind post fun ds δ1 vs F1 H1 _ s1 ok1 rs post => ?_)⟩
      have fin : ∀ (r r1 : R) (ob : OB) (mkr : OB → R), δ1[i]? = some (some r1) → r1 = mkr ob → (∀ o, (mkr o).mu = true) → (mkr = R.own ∨ mkr = R.brw) →
          Post c W F1 σ (ρR c σ) (match f (some ob) ds with | .ok r (some o') => .ok r (δ1.set i (some (mkr o'))) | .exc x (some o') => .exc x (δ1.set i (some (mkr o'))) | _ => .bad) Q → spD M f (V.ref a :: vs) H1 Q (WE W σ) := by
        intro r r1 ob mkr q1 e1 hm hk post
        subst e1
        obtain ⟨a', ob1, ea', hf1, hob1, hk1⟩ := ok1.mus q1 (hm ob)
        rw [ea] at ea'; cases ea'
        have eob : ob1 = ob := by
          rcases hk with rfl | rfl
          · rcases hk1 with ⟨z, _⟩ | ⟨z, _⟩ <;> cases z; rfl
          · rcases hk1 with ⟨z, _⟩ | ⟨z, _⟩ <;> cases z; rfl
        subst eob
        have rel : ∀ o', (mkr ob1 = R.own ob1 ∧ mkr o' = R.own o') ∨ (mkr ob1 = R.brw ob1 ∧ mkr o' = R.brw o') := fun o' => by
          rcases hk with rfl | rfl
          · exact .inl ⟨rfl, rfl⟩
          · exact .inr ⟨rfl, rfl⟩
        refine ⟨F1, some ob1, a, vs, ds, rfl, ok1.same, ok1.tb, rs, ⟨hf1, hob1⟩, ?_⟩
        cases q : f (some ob1) ds with
        | bad => rw [q] at post; exact post
        | ok r io =>
          rw [q] at post
          cases io with
          | none => exact post.elim
          | some o' =>
            intro v F' H' st ra ia
            exact post v F' H' st.grow (ok1.stpIo q1 (rel o') ea st ia) (ok1.resR' (set_mu q1 (hm _)) ra)
        | exc x io =>
          rw [q] at post
          cases io with
          | none => exact post.elim
          | some o' =>
            intro cls d F' H' st xa ia
            exact post cls d F' H' st.grow (ok1.stpIo q1 (rel o') ea st ia) xa
      split at post
      · rename_i o q1
        exact fin (.imm .non) _ o R.own q1 rfl (fun _ => rfl) (.inl rfl) post
      · rename_i o q1
        exact fin (.imm .non) _ o R.brw q1 rfl (fun _ => rfl) (.inr rfl) post
      · exact post.elim
    · exact post.elim
  · exact post.elim
theorem d_ownT {e0 : Expr} {fe : FE} (mk : ∀ {t : TA}, PA X [e0] t → PE X e (tOwn W (spD M f) t)) (h0 : DE M W X e0 fe) (hs : starEach (e0 :: []) X.env = (false, eval e0 X.env) :: starEach [] X.env := by rfl) : DE M W X e (fOwnT f fe) := by
  obtain ⟨t, p, h⟩ := h0
  refine ⟨_, mk (pa_cons p pa_nil hs), fun c F H σ δ Q ok post => h c F H σ δ _ ok (Post.bind post fun r δ1 v F1 H1 _ s1 ok1 rr post => ?_)⟩
  cases r with
  | imm d => exact post.elim
  | brw o => exact post.elim
  | nst _ _ => exact post.elim
  | own o =>
    obtain ⟨a, rfl, h1, h2, h3, h4⟩ := rr
    refine ⟨F1, some o, a, [], [], rfl, ok1.same, ok1.tb, reps_nil, ⟨h1, h3⟩, ?_⟩
    change Post c W F1 σ (ρR c σ) (outE (f (some o) []) δ1) Q at post
    unfold outE at post
    cases q : f (some o) [] with
    | ok r io => rw [q] at post; exact fun v F' H' st ra _ => post v F' H' st.grow (ok1.stpTmp h2 h4 st) (ok1.resR' (fun j r e m => ⟨r, e, m⟩) ra)
    | exc x io => rw [q] at post; exact fun cls d F' H' st xa _ => post cls d F' H' st.grow (ok1.stpTmp h2 h4 st) xa
    | bad => rw [q] at post; exact post
theorem d_make {n : Nat} {C : Addr} (mk : ∀ {t : TA}, PA X es t → PE X e (tMakeS W C (spD M f) t)) (hG : M.G n = some C) (ha : DA M W X es fa) : DE M W X e (fMake n f fa) := by
  obtain ⟨t, p, h⟩ := ha
  refine ⟨_, mk p, fun c F H σ δ Q ok post => h c F H σ δ _ ok (Post.bind post fun ds δ1 vs F1 H1 _ s1 ok1 rs post => fun x dx hx hdx hne => ?_)⟩
  exact make_of ok1 hG rs post hx hdx hne
theorem lookup_none {α : Type} : ∀ {fs : List (Str × α)} {m : Str}, m ∉ fs.map (·.1) → fs.lookup m = none
  | [], m, _ => rfl
  | (k, v) :: r, m, h => by
    have h1 : m ≠ k := fun z => h (by simp [z])
    have h2 : m ∉ r.map (·.1) := fun z => h (by simp [z])
    have e : (m == k) = false := by simpa using h1
    simp only [List.lookup, e]
    exact lookup_none h2
def okM (M : Gm) (tab : Nat → Option Fm) : Addr → Sp → Prop := fun C sp => ∃ n f, tab n = some f ∧ M.G n = some C ∧ sp = spD M f
theorem methOk_of {k : Nat} {m : Str} {tab : Nat → Option Fm} {M : Gm} (h : ∀ n f, tab n = some f → ∃ C g, M.G n = some C ∧ Cls X.K C ∧ Meth X.K C m g ∧ FnR X.prog X.w X.K X.mg X.base (CXX X) k g (spD M f)) : MethOk X k m (okM M tab) := ⟨fun C sp ⟨n, f, h1, h2, h3⟩ => by
  obtain ⟨C', g, k1, k2, k3, k4⟩ := h n f h1
  rw [h2] at k1; cases k1
  subst h3
  exact ⟨g, k2, k3, k4⟩⟩
theorem lookup_at {α : Type} : ∀ {fs : List (Str × α)} {j : Nat} {f : Str} {v : α}, (fs.map (·.1))[j]? = some f → f ∉ (fs.map (·.1)).take j → (fs.map (·.2))[j]? = some v → fs.lookup f = some v
  | [], j, f, v, h, _, _ => by simp at h
  | (k, w) :: r, 0, f, v, h, _, hv => by
    simp at h hv
    subst h hv
    simp [List.lookup]
  | (k, w) :: r, j + 1, f, v, h, hn, hv => by
    simp at h hv
    simp only [List.map_cons, List.take_succ_cons, List.mem_cons, not_or] at hn
    have e : (f == k) = false := by simpa using hn.1
    simp only [List.lookup, e]
    exact lookup_at (by simpa using h) hn.2 (by simpa using hv)
def fFld (ix : Nat → Option Nat) (fo : FD) : FD := fun δ => (fo δ).bind fun d δ1 => match d with
  | .obj n vs => (match ix n with
    | some j => (match vs[j]? with
      | some d => .ok d δ1
      | none => .bad)
    | none => .bad)
  | _ => .bad
def FldT (M : Gm) (f : Str) (ix : Nat → Option Nat) : Prop := ∀ n j, ix n = some j → (∀ C, M.G n = some C → Cls M.K C ∧ NoAttr M.K C f) ∧ (M.nm n)[j]? = some f ∧ f ∉ (M.nm n).take j
theorem fld_look {M : Gm} {f : Str} {ix : Nat → Option Nat} (T : FldT M f ix) {F : Hp} {n j : Nat} {vs : List D} {fs : List (Str × V)} {d : D} (hj : ix n = some j) (h3 : fs.map (·.1) = (M.nm n).take vs.length) (h4 : reps M F vs (fs.map (·.2))) (hd : vs[j]? = some d) : ∃ v, fs.lookup f = some v ∧ rep M F d v := by
  obtain ⟨_, k1, k2⟩ := T n j hj
  obtain ⟨v, e1, e2⟩ := reps_get h4 hd
  have hl : j < vs.length := (List.getElem?_eq_some_iff.mp hd).1
  refine ⟨v, lookup_at (j := j) ?_ ?_ e1, e2⟩
  · rw [h3, List.getElem?_take_of_lt hl]; exact k1
  · rw [h3, List.take_take, Nat.min_eq_left (Nat.le_of_lt hl)]; exact k2
theorem di_fld {o : Expr} {f : Str} {pos : Pos} {ix : Nat → Option Nat} {fo : FD} (T : FldT M f ix) (ho : DP M W X o fo) (hK : X.K = M.K := by rfl) (hb : attributeBase o f X.env (eval o X.env) = eval o X.env := by rfl) : DI M W X (.Attribute o f pos) (fFld ix fo) := by
  obtain ⟨ta, pa, ho⟩ := ho
  refine ⟨_, pe_fld pa hb, fun c F H σ δ Q ok post => ho c F H σ δ _ ok (Post.bind post fun d δ1 v F1 H1 _ s1 ok1 r post => ?_)⟩
  split at post
  · rename_i n vs _
    split at post
    · rename_i j hj
      split at post
      · rename_i d hd
        obtain ⟨a, C, dx, fs, rfl, h1, h2, h3, h4⟩ := prep_obj ok1.same r
        obtain ⟨w, e1, e2⟩ := fld_look T hj h3 h4 hd
        obtain ⟨k1, k2⟩ := (T n j hj).1 C h1
        exact ⟨a, C, dx, fs, w, rfl, h2, by rw [hK]; exact k1, by rw [hK]; exact k2, e1, post.ok ok1 e2⟩
      · exact post.elim
    · exact post.elim
  · exact post.elim
def fProp (tab : Nat → Option Fm) (fo : FD) : FD := fun δ => (fo δ).bind fun d δ1 => match d with
  | .obj n vs => (match tab n with
    | some f => (match f none [.obj n vs] with
      | .ok (.imm d) _ => .ok d δ1
      | _ => .bad)
    | none => .bad)
  | _ => .bad
def tPropD (ok : Addr → Sp → Prop) (ta : TE) : TE := fun σ H Q => ta σ H fun x H1 => ∃ a C dx fs sp, x = .ref a ∧ H1 a = some (.ins C dx fs) ∧ ok C sp ∧ sp [.ref a] H1 Q E0
structure PropOk (X : Cx) (k : Nat) (f : Str) (ok : Addr → Sp → Prop) : Prop where
  at_ : ∀ C sp, ok C sp → ∃ p g, Cls X.K C ∧ PropOf X.K C f p g ∧ FnR X.prog X.w X.K X.mg X.base (CXX X) k g sp
theorem prop_run {k : Nat} {f : Str} {C p g a dx : Addr} {fs : List (Str × V)} {sp : Sp} {pins : List (Addr × Obj)} {σ : St} {H : Hp} {s : Shared} {Q : VK} {b : Bool} (I : Inv X pins σ H s) (ea : H a = some (.ins C dx fs)) (c : Cls X.K C) (hp : PropOf X.K C f p g)
    (F : FnR X.prog X.w X.K X.mg X.base (CXX X) k g sp) (hr : Room (k + 1) X.A) (h : sp [.ref a] H Q E0) : wpAny (model X.prog X.w) X.A (getAttr (.ref a) f b) (EP X pins σ Q) X.xe s := by
  obtain ⟨mA, O, _, _, _, _⟩ := ins_get I.hok ea
  obtain ⟨od, J, _⟩ := O.look
  obtain ⟨rest, hrec⟩ := hp.rec_
  obtain ⟨cd, ecd, _⟩ := PySem.W.any_some c.hd
  have I1 := I.tok (s.toks + 1)
  have pg := PySem.W.plainGet_of (c.get f)
  have run := F X.A.in1 X.stack { s with toks := s.toks + 1 } H [.ref a] [.ref a] Q E0 (Room.in1 hr) I1.env0.in1 (.cons rfl .nil) h
  refine PySem.W.get_bind I.kIn J pg.1 (PySem.W.findObj_data (by rw [ecd]; rfl) hp.at_ hp.get hp.tak) pg.2 (wpAny_call (PySem.W.prop_get (s := { s with toks := s.toks + 1 }) I.kIn hrec (codeAny_mono run fun r s' z => ?_)))
  cases r with
  | error er => exact False.elim ((passL : Passes _ X.nox _) pins σ H { s with toks := s.toks + 1 } er s' (I1.wish _) z)
  | ok fl =>
    cases fl with
    | ret u =>
      obtain ⟨v, H', I3, ru, q⟩ := I1.after z
      show wpAny _ _ (handedOut u) _ _ _
      rw [PySem.W.handedOut_of (handed_of ru)]
      exact wpAny_pure ⟨v, H', I3, ru, q⟩
    | next => exact z.elim
    | brk => exact z.elim
    | cont => exact z.elim
theorem pe_propD {o : Expr} {f : Str} {pos : Pos} {k : Nat} {ta : TE} {ok : Addr → Sp → Prop} (he : PE X o ta) (T : PropOk X k f ok) (hr : Room (k + 1) X.A) (hab : attributeBase o f X.env (eval o X.env) = eval o X.env := by rfl) : PE X (.Attribute o f pos) (tPropD ok ta) := by
  refine ⟨fun pins s σ H Q I h => ?_⟩
  refine attr_of hab (thn (he.run pins s σ H _ I h) fun u s1 ⟨x, H1, I1, rx, a, C, dx, fs, sp, ex, ea, hok, q⟩ => ?_)
  obtain ⟨p, g, c, hp, F⟩ := T.at_ C sp hok
  subst ex
  obtain rfl : u = Value.ref a := rx
  exact prop_run I1 ea c hp F hr q
end
end
end TS

namespace TS
open PySem L2
noncomputable section
section
variable {M : Gm} {c : Cn M} {W : WX} {X : Cx}
theorem propOk_of {k : Nat} {m : Str} {tab : Nat → Option Fm} {M : Gm} (h : ∀ n f, tab n = some f → ∃ C p g, M.G n = some C ∧ Cls X.K C ∧ PropOf X.K C m p g ∧ FnR X.prog X.w X.K X.mg X.base (CXX X) k g (spD M f)) : PropOk X k m (okM M tab) := ⟨fun C sp ⟨n, f, h1, h2, h3⟩ => by
  obtain ⟨C', p, g, k1, k2, k3, k4⟩ := h n f h1
  rw [h2] at k1; cases k1
  subst h3
  exact ⟨p, g, k2, k3, k4⟩⟩
theorem di_prop {o : Expr} {f : Str} {pos : Pos} {k : Nat} {tab : Nat → Option Fm} {fo : FD} (T : PropOk X k f (okM M tab)) (hr : Room (k + 1) X.A) (ho : DI M W X o fo) (hb : attributeBase o f X.env (eval o X.env) = eval o X.env := by rfl) : DI M W X (.Attribute o f pos) (fProp tab fo) := by
  obtain ⟨ta, pa, ho⟩ := ho
  refine ⟨_, pe_propD pa T hr hb, fun c F H σ δ Q ok post => ho c F H σ δ _ ok (Post.bind post fun d δ1 v F1 H1 _ s1 ok1 r post => ?_)⟩
  split at post
  · rename_i n vs _
    split at post
    · rename_i f hf
      split at post
      · rename_i d io hd
        have r0 := r
        unfold ρD rep at r
        obtain ⟨a, C, dx, fs, rfl, h1, h2, h3, h4⟩ := r
        refine ⟨a, C, dx, fs, spD M f, rfl, ok1.same _ _ h2, ⟨n, f, hf, h1, rfl⟩, F1, none, 0, [.ref a], [.obj n vs], rfl, ok1.same, ok1.tb, reps_cons r0 reps_nil, trivial, ?_⟩
        rw [hd]
        exact fun v F' H' st ra _ => post v F' H' st.grow (ok1.stp st) ra
      · exact post.elim
    · exact post.elim
  · exact post.elim
theorem di_cval {o : Expr} {f : Str} {pos : Pos} {C : Addr} {mc u : Value} {v : V} {d : D} (ho : PE X o (tC (.ref C))) (r : ClX.CRead X.K C mc) (k : ClX.CVal X.K C mc f v u) (hd : ∀ F, rep M F d v) (hb : attributeBase o f X.env (eval o X.env) = eval o X.env := by rfl) : DI M W X (.Attribute o f pos) (kD d) :=
  ⟨_, ClX.pe_cval ho hb, fun c F H σ δ Q ok post => ⟨C, mc, v, u, rfl, r, k, post.ok ok (hd F)⟩⟩
section
variable {X : Cx} {pins : List (Addr × Obj)} {σ : St} {H : Hp} {s : Shared} {k : Nat} {C p g : Addr} {mc : Value} {sp : Sp} {o e : Expr} {es : List Expr} {m : Str} {pos apos : Pos} {ta : TE} {t : TA} {pl : Sem Bool}
end
def fCMeth (n : Nat) (f : Fm) (fa : FA) : FE := fun δ => (fa δ).bind fun ds δ1 => outE (f none (.cls n :: ds)) δ1
end
def PostS (c : Cn M) (W : WX) (F : Hp) (r : SR) (E : Ends) : Prop := match r with
  | .nx δ' => ∀ F' H' σ', Same F F' → Ok c F' H' σ' δ' → E.nx σ' H'
  | .rt r δ' => ∀ v F' H' σ', Same F F' → Ok c F' H' σ' δ' → repR c F' H' σ' δ' r v → E.rt v H'
  | .bk δ' => ∀ F' H' σ', Same F F' → Ok c F' H' σ' δ' → E.bk σ' H'
  | .ct δ' => ∀ F' H' σ', Same F F' → Ok c F' H' σ' δ' → E.ct σ' H'
  | .exc x δ' => ∀ cls d F' H' σ', Same F F' → Ok c F' H' σ' δ' → xAt M F' x cls d H' → W cls d σ' H'
  | .bad => False
def DS (M : Gm) (W : WX) (X : Cx) (s : Stmt) (g : FS) : Prop := ∃ t, PS X s t ∧ ∀ (c : Cn M) F H σ δ E, Ok c F H σ δ → PostS c W F (g δ) E → t E σ H
def DSs (M : Gm) (W : WX) (X : Cx) (s : List Stmt) (g : FS) : Prop := ∃ t, PSs X s t ∧ ∀ (c : Cn M) F H σ δ E, Ok c F H σ δ → PostS c W F (g δ) E → t E σ H
def SR.bind (m : SR) (k : Sl → SR) : SR := match m with
  | .nx δ => k δ
  | r => r
@[simp] theorem SR.bind_nx (δ : Sl) (k : Sl → SR) : (SR.nx δ).bind k = k δ := rfl
@[simp] theorem SR.bind_rt (r : R) (δ : Sl) (k : Sl → SR) : (SR.rt r δ).bind k = .rt r δ := rfl
@[simp] theorem SR.bind_exc (r : XD) (δ : Sl) (k : Sl → SR) : (SR.exc r δ).bind k = .exc r δ := rfl
section
variable {M : Gm} {c : Cn M} {W : WX} {X : Cx} {F F1 H H1 : Hp} {σ : St} {δ : Sl}
theorem PostS.shift {r : SR} {E : Ends} (h : PostS c W F r E) (g : Same F F1) : PostS c W F1 r E := by
  cases r with
  | nx δ' => exact fun F' H' σ' s => h F' H' σ' (g.trans s)
  | rt r δ' => exact fun v F' H' σ' s => h v F' H' σ' (g.trans s)
  | bk δ' => exact fun F' H' σ' s => h F' H' σ' (g.trans s)
  | ct δ' => exact fun F' H' σ' s => h F' H' σ' (g.trans s)
  | exc x δ' => exact fun cls d F' H' σ' s => h cls d F' H' σ' (g.trans s)
  | bad => exact h
theorem PostS.bind {m : SR} {k : Sl → SR} {E : Ends} {N : St → Hp → Prop} (h : PostS c W F (m.bind k) E) (f : ∀ δ1 F1 H1 σ1, m = .nx δ1 → Same F F1 → Ok c F1 H1 σ1 δ1 → PostS c W F1 (k δ1) E → N σ1 H1) : PostS c W F m { E with nx := N } := by
  cases m with
  | nx δ' => exact fun F' H' σ' s ok => f δ' F' H' σ' rfl s ok (PostS.shift h s)
  | rt r δ' => exact h
  | bk δ' => exact h
  | ct δ' => exact h
  | exc x δ' => exact h
  | bad => exact h
theorem PostS.ofE {α β : Type} {ρ : Hp → Hp → Sl → α → β → Prop} {m : Res α} {k : α → Sl → SR} {E : Ends} {T : β → Hp → Prop} (h : PostS c W F (m.bindS k) E)
    (f : ∀ a δ1 v F1 H1, m = .ok a δ1 → Same F F1 → Ok c F1 H1 σ δ1 → ρ F1 H1 δ1 a v → PostS c W F1 (k a δ1) E → T v H1) : Post c W F σ ρ m T := by
  cases m with
  | ok a δ' => exact fun v F' H' s ok r => f a δ' v F' H' rfl s ok r (PostS.shift h s)
  | exc x δ' => exact fun cls d F' H' s ok r => h cls d F' H' σ s ok r
  | bad => exact h
def sSeq (f g : FS) : FS := fun δ => (f δ).bind g
def sNil : FS := fun δ => .nx δ
theorem dss_nil : DSs M W X [] sNil := ⟨_, pss_nil, fun c F H σ δ E ok post => post F H σ (Same.refl _) ok⟩
theorem dss_cons {s : Stmt} {ss : List Stmt} {f g : FS} (h : DS M W X s f) (h' : DSs M W X ss g) : DSs M W X (s :: ss) (sSeq f g) := by
  obtain ⟨t, p, h⟩ := h
  obtain ⟨t', p', h'⟩ := h'
  exact ⟨_, pss_cons p p', fun c F H σ δ E ok post => h c F H σ δ _ ok (PostS.bind post fun δ1 F1 H1 σ1 _ s1 ok1 post => h' c F1 H1 σ1 δ1 E ok1 post)⟩
theorem dss_one {s : Stmt} {f : FS} (h : DS M W X s f) : DSs M W X [s] f := by
  obtain ⟨t, p, h⟩ := h
  exact ⟨_, pss_one p, h⟩
def sRet (f : FE) : FS := fun δ => (f δ).bindS fun r δ1 => .rt r δ1
theorem ds_ret {e : Expr} {pos : Pos} {f : FE} (h : DE M W X e f) : DS M W X (.Return (some e) pos) (sRet f) := by
  obtain ⟨t, p, h⟩ := h
  exact ⟨_, ps_ret p, fun c F H σ δ E ok post => h c F H σ δ _ ok (PostS.ofE post fun r δ1 v F1 H1 _ s ok1 rr post => post v F1 H1 σ (Same.refl _) ok1 rr)⟩
def sExpr (f : FE) : FS := fun δ => (f δ).bindS fun _ δ1 => .nx δ1
theorem ds_expr {e : Expr} {pos : Pos} {f : FE} (h : DE M W X e f) (hs : swapsWith e none pos.line X.env = pure false := by rfl) : DS M W X (.Expr e pos) (sExpr f) := by
  obtain ⟨t, p, h⟩ := h
  exact ⟨_, ps_expr p hs, fun c F H σ δ E ok post => h c F H σ δ _ ok (PostS.ofE post fun r δ1 v F1 H1 _ s ok1 rr post => post F1 H1 σ (Same.refl _) ok1)⟩
def sIf (t : FT) (f g : FS) : FS := fun δ => (t δ).bindS fun b δ1 => if b then f δ1 else g δ1
theorem ds_if {e : Expr} {ss ss' : List Stmt} {pos : Pos} {t : FT} {f g : FS} (h : DT M W X e t) (ha : DSs M W X ss f) (hb : DSs M W X ss' g) : DS M W X (.If e ss ss' pos) (sIf t f g) := by
  obtain ⟨t, p, h⟩ := h
  obtain ⟨ta, pa, ha⟩ := ha
  obtain ⟨tb, pb, hb⟩ := hb
  refine ⟨_, ps_if p pa pb, fun c F H σ δ E ok post => h c F H σ δ _ ok (PostS.ofE post fun b δ1 k F1 H1 _ s ok1 e post => ?_)⟩
  cases (show b = k from e)
  cases b with
  | true => exact ha c F1 H1 σ δ1 E ok1 post
  | false => exact hb c F1 H1 σ δ1 E ok1 post
def sNev : FS := fun _ => .bad
def DG (M : Gm) (W : WX) (X : Cx) (tg : Expr) (h : R → Sl → SR) : Prop := ∃ g, PG X tg g ∧ ∀ (c : Cn M) F H σ δ v r (Q : St → Hp → Prop), Ok c F H σ δ → repR c F H σ δ r v → PostS c W F (h r δ) ⟨Q, fun _ _ => False, fun _ _ => False, fun _ _ => False⟩ → g v σ H Q
def tName (i : Nat) : R → Sl → SR := fun r δ => match r with
  | .brw _ => .bad
  | .nst _ _ => .bad
  | r => .nx (δ.set i (some r))
theorem dg_name {tg : Expr} {i : Nat} (h : PG X tg (gName i)) : DG M W X tg (tName i) := by
  refine ⟨_, h, fun c F H σ δ v r Q ok rr post => ?_⟩
  unfold tName at post
  cases r with
  | imm d => exact post F H _ (Same.refl _) (ok.setI i rr)
  | own o => exact post F H _ (Same.refl _) (ok.setO i rr)
  | brw o => exact post.elim
  | nst _ _ => exact post.elim
def DGs (M : Gm) (W : WX) (X : Cx) (ts : List Expr) (h : List D → Sl → SR) : Prop := ∃ g, PGs X ts g ∧ ∀ (c : Cn M) F H σ δ vs ds (Q : St → Hp → Prop), Ok c F H σ δ → reps M F ds vs → PostS c W F (h ds δ) ⟨Q, fun _ _ => False, fun _ _ => False, fun _ _ => False⟩ → g vs σ H Q
def tsNil : List D → Sl → SR := fun ds δ => match ds with
  | [] => .nx δ
  | _ => .bad
def tsCons (h : R → Sl → SR) (hs : List D → Sl → SR) : List D → Sl → SR := fun ds δ => match ds with
  | d :: ds => (h (.imm d) δ).bind (hs ds)
  | [] => .bad
theorem dgs_nil : DGs M W X [] tsNil := ⟨_, pgs_nil, fun c F H σ δ vs ds Q ok rs post => by
  unfold tsNil at post
  split at post
  · unfold reps at rs
    exact ⟨rs, post F H σ (Same.refl _) ok⟩
  · exact post.elim⟩
theorem dgs_cons {e : Expr} {es : List Expr} {h : R → Sl → SR} {hs : List D → Sl → SR} (h1 : DG M W X e h) (h2 : DGs M W X es hs) (hq : (assignEach (e :: es) X.env).map (·.2) = assign e X.env :: (assignEach es X.env).map (·.2) := by rfl) : DGs M W X (e :: es) (tsCons h hs) := by
  obtain ⟨g, p, h1⟩ := h1
  obtain ⟨g', p', h2⟩ := h2
  refine ⟨_, pgs_cons p p' hq, fun c F H σ δ vs ds Q ok rs post => ?_⟩
  unfold tsCons at post
  split at post
  · rename_i d ds
    unfold reps at rs
    obtain ⟨v, r, rfl, k1, k2⟩ := rs
    exact ⟨v, r, rfl, h1 c F H σ δ v (.imm d) _ ok k1 (PostS.bind post fun δ1 F1 H1 σ1 _ s1 ok1 post => h2 c F1 H1 σ1 δ1 r ds Q ok1 (reps_mono s1 _ _ k2) post)⟩
  · exact post.elim
def tTup (n : Nat) (hs : List D → Sl → SR) : R → Sl → SR := fun r δ => match r with
  | .imm (.tup ds) => if ds.length = n then hs ds δ else .bad
  | .imm (.ktp ns) => if ns.length = n then hs (ns.map D.int) δ else .bad
  | _ => .bad
theorem dg_tup {es : List Expr} {k n : Nat} {pos : Pos} {hs : List D → Sl → SR} (hc : X.calm = true) (h : DGs M W X es hs) (hK : X.K = M.K := by rfl) (hn : (assignEach es X.env).length = n := by rfl) (hst : (assignEach es X.env).findIdx? (·.1) = none := by rfl) : DG M W X (.Tuple es k pos) (tTup n hs) := by
  obtain ⟨g, p, h⟩ := h
  refine ⟨_, pg_tup hc p hn hst, fun c F H σ δ v r Q ok rr post => ?_⟩
  unfold tTup at post
  split at post
  · split at post
    · rename_i ds hl
      have z : rep M F (.tup ds) v := rr
      unfold rep at z
      obtain ⟨a, vs, rfl, h2, h3⟩ := z
      exact ⟨a, vs, rfl, by rw [hK]; exact SqT.of (ok.same _ _ h2), by rw [reps_length h3]; exact hl, h c F H σ δ vs ds Q ok h3 post⟩
    · exact post.elim
  · split at post
    · rename_i ns hl
      have z : rep M F (.ktp ns) v := rr
      unfold rep at z
      obtain ⟨a, rfl, h2⟩ := z
      exact ⟨a, _, rfl, by rw [hK]; exact itup_sq ok.same h2, by rw [List.length_map]; exact hl, h c F H σ δ _ _ Q ok (reps_kt ns) post⟩
    · exact post.elim
  · exact post.elim
def rSetAll : V → V → V → Hp → (Hp → Prop) → Prop := fun o i v H Q => rSetL o i v H Q ∨ ∃ a H', o = .ref a ∧ DPut H a i v H' ∧ Q H'
theorem set_all (hu : X.A.units + 1 < cLine) : PSet X rSetAll := by
  intro pins s σ H o i v ov iv u Q I ro ri rv h
  rcases h with h | ⟨a, H', rfl, g, q⟩
  · exact set_list pins s σ H o i v ov iv u Q I ro ri rv h
  · obtain rfl : ov = Value.ref a := ro
    exact d_setItem hu I g ri rv fun s4 I4 => ⟨H', I4, q⟩
def repD {κ : Type} [DecidableEq κ] (k : κ) (d : D) : List κ → List D → List D
  | k' :: ks, d' :: ds => (if k' = k then d else d') :: repD k d ks ds
  | _, ds => ds
def putD {κ : Type} [DecidableEq κ] (ks : List κ) (ds : List D) (k : κ) (d : D) : List κ × List D := if (ks.any fun k' => decide (k' = k)) = true then (ks, repD k d ks ds) else (ks ++ [k], ds ++ [d])
theorem putD_v {M : Gm} {F : Hp} {κ : Type} [DecidableEq κ] {v : V} {d : D} (hv : rep M F d v) (k : κ) {kvs : List (κ × V)} {ds : List D} (h : reps M F ds (kvs.map (·.2))) : (putK kvs k v).map (·.1) = (putD (kvs.map (·.1)) ds k d).1 ∧ reps M F (putD (kvs.map (·.1)) ds k d).2 ((putK kvs k v).map (·.2)) := by
  unfold putK putD
  have e : ((kvs.map (·.1)).any fun k' => decide (k' = k)) = kvs.any fun kv => decide (kv.1 = k) := by rw [List.any_map]; rfl
  rw [e]
  by_cases hc : (kvs.any fun kv => decide (kv.1 = k)) = true
  · rw [if_pos hc, if_pos hc]
    clear hc e
    constructor
    · rw [List.map_map]
      refine List.map_congr_left fun p _ => ?_
      simp only [Function.comp]
      split <;> rfl
    · show reps M F (repD k d (kvs.map (·.1)) ds) _
      induction kvs generalizing ds with
      | nil =>
        unfold reps at h
        cases ds with
        | nil => simp [repD, reps]
        | cons d' ds => obtain ⟨_, _, z, _⟩ := h; cases z
      | cons p r ih =>
        cases ds with
        | nil => unfold reps at h; cases h
        | cons d' ds =>
          rw [List.map_cons, reps_cons_iff] at h
          simp only [List.map_cons, repD]
          refine reps_cons ?_ (ih h.2)
          by_cases z : p.1 = k
          · rw [if_pos z, if_pos z]; exact hv
          · rw [if_neg z, if_neg z]; exact h.1
  · rw [if_neg hc, if_neg hc]
    exact ⟨by simp, by rw [List.map_append]; exact reps_append h (reps_cons hv reps_nil)⟩
def setOB : OB → D → D → Option OB
  | .l ds, .int i, d => (ixN ds.length i).map fun j => .l (ds.set j d)
  | .dK ks ds, k, d => (keyOf k).bind fun k => if ds.length < 16777216 then some (.dK (putD ks ds k d).1 (putD ks ds k d).2) else none
  | .dT ks ds, .tup kds, d => (keysOf kds).bind fun k => if ds.length < 16777216 then some (.dT (putD ks ds k d).1 (putD ks ds k d).2) else none
  | _, _, _ => none
def tSub (x : Nat) (fi : FD) : R → Sl → SR := fun r δ => match r with
  | .imm d => (match δ[x]? with
    | some (some r0) => if r0.mu then (fi δ).bindS fun i δ1 => match δ1[x]? with
      | some (some (.own o)) => (match setOB o i d with
        | some o' => .nx (δ1.set x (some (.own o')))
        | none => .bad)
      | some (some (.brw o)) => (match setOB o i d with
        | some o' => .nx (δ1.set x (some (.brw o')))
        | none => .bad)
      | _ => .bad
      else .bad
    | _ => .bad)
  | _ => .bad
theorem setOB_ok {F H : Hp} {ob ob' : OB} {a : Addr} {vi vd : V} {di d : D} {Q : Hp → Prop} (s : Same F H) (hob : obAt M F H ob a) (ri : rep M F di vi) (rd : rep M F d vd) (e : setOB ob di d = some ob') (q : ∀ o, obAt M F (upd H a o) ob' a → Q (upd H a o)) : rSetAll (.ref a) vi vd H Q := by
  unfold setOB at e
  split at e
  · rename_i ds i
    obtain ⟨j, e1, rfl⟩ := Option.map_eq_some_iff.mp e
    obtain ⟨vs, h1, h2⟩ := hob
    unfold rep at ri
    refine .inl ⟨a, vs, i, j, rfl, ri, h1, by rw [reps_length h2]; exact e1, q _ ⟨_, upd_same, reps_set j h2 rd⟩⟩
  · rename_i ks ds k
    obtain ⟨kk, e1, e2⟩ := Option.bind_eq_some_iff.mp e
    split at e2
    · rename_i hl
      cases e2
      obtain ⟨kvs, h1, h2, h3⟩ := hob
      subst h2
      obtain ⟨p1, p2⟩ := putD_v rd kk h3
      have ek := keyOf_v (M := M) (H := H) (.inl ri) e1
      subst ek
      refine .inr ⟨a, _, rfl, DPut.k h1 ?_, q _ ⟨_, upd_same, p1, p2⟩⟩
      have z := reps_length h3
      rw [List.length_map] at z
      rw [z, sizeLine_eq]; exact hl
    · cases e2
  · rename_i ks ds kds
    obtain ⟨kk, e1, e2⟩ := Option.bind_eq_some_iff.mp e
    split at e2
    · rename_i hl
      cases e2
      obtain ⟨kvs, h1, h2, h3⟩ := hob
      subst h2
      obtain ⟨p1, p2⟩ := putD_v rd kk h3
      obtain ⟨b, rfl, hb⟩ := prep_tupK s (.inl ri) e1
      refine .inr ⟨a, _, rfl, DPut.t h1 hb ?_, q _ ⟨_, upd_same, p1, p2⟩⟩
      have z := reps_length h3
      rw [List.length_map] at z
      rw [z, sizeLine_eq]; exact hl
    · cases e2
  · cases e
theorem dg_sub {o ie : Expr} {x : Nat} {pos : Pos} {fi : FD} (ho : PE X o (tVar x)) (hi : DI M W X ie fi) (hu : X.A.units + 1 < cLine)
    (ha : ∀ v, assign (.Subscript o ie pos) X.env v = (do
      let ov ← holding [v] (eval o X.env)
      let iv ← holding [v, ov] (eval ie X.env)
      standAt pos
      holding [v, ov, iv] (setItem ov iv v)
      release [v, ov, iv] []) := by intro _; rfl) : DG M W X (.Subscript o ie pos) (tSub x fi) := by
  obtain ⟨ti, pi, hi⟩ := hi
  refine ⟨_, pg_sub ho pi (set_all hu) ha, fun c F H σ δ v r Q ok rr post => ?_⟩
  unfold tSub at post
  cases r with
  | own o => exact post.elim
  | brw o => exact post.elim
  | nst _ _ => exact post.elim
  | imm d =>
    simp only at post
    split at post
    · rename_i r0 q0
      split at post
      · rename_i hm
        obtain ⟨a, ob0, ea, _, _, _⟩ := ok.mus q0 hm
        refine ⟨.ref a, ea, hi c F H σ δ _ ok (PostS.ofE post fun di δ1 vi F1 H1 _ s1 ok1 ri post => ?_)⟩
        split at post
        · rename_i ob q1
          split at post
          · rename_i ob' e1
            obtain ⟨a', ob1, ea', hf, hob, hk⟩ := ok1.mus q1 rfl
            rw [ea] at ea'; cases ea'
            rcases hk with ⟨z, _⟩ | ⟨z, _⟩ <;> cases z
            refine setOB_ok ok1.same hob ri (rep_mono s1 _ _ rr) e1 fun o' hob' => post F1 _ σ (Same.refl _) (ok1.write q1 (.inl ⟨rfl, rfl⟩) ea hob')
          · exact post.elim
        · rename_i ob q1
          split at post
          · rename_i ob' e1
            obtain ⟨a', ob1, ea', hf, hob, hk⟩ := ok1.mus q1 rfl
            rw [ea] at ea'; cases ea'
            rcases hk with ⟨z, _⟩ | ⟨z, _⟩ <;> cases z
            refine setOB_ok ok1.same hob ri (rep_mono s1 _ _ rr) e1 fun o' hob' => post F1 _ σ (Same.refl _) (ok1.write q1 (.inr ⟨rfl, rfl⟩) ea hob')
          · exact post.elim
        · exact post.elim
      · exact post.elim
    · exact post.elim
def sAsg (f : FE) (h : R → Sl → SR) : FS := fun δ => (f δ).bindS h
theorem asg_of {t : TE} {g : TG} {f : FE} {h : R → Sl → SR} (he : RE M W t f) (hg : ∀ (c : Cn M) F H σ δ v r (Q : St → Hp → Prop), Ok c F H σ δ → repR c F H σ δ r v → PostS c W F (h r δ) ⟨Q, fun _ _ => False, fun _ _ => False, fun _ _ => False⟩ → g v σ H Q)
    (hn : ∀ r δ, (∃ δ', h r δ = .nx δ') ∨ (∃ x δ', h r δ = .exc x δ') ∨ h r δ = .bad) : ∀ (c : Cn M) F H σ δ E, Ok c F H σ δ → PostS c W F (sAsg f h δ) E → tAsg t g E σ H := fun c F H σ δ E ok post =>
  he c F H σ δ _ ok (PostS.ofE post fun r δ1 v F1 H1 _ s ok1 rr post => hg c F1 H1 σ δ1 v r _ ok1 rr (by
    rcases hn r δ1 with ⟨δ', e⟩ | ⟨x, δ', e⟩ | e
    · rw [e] at post ⊢; exact post
    · rw [e] at post ⊢; exact post
    · rw [e] at post ⊢; exact post))
def Tgt (h : R → Sl → SR) : Prop := ∀ r δ, (∃ δ', h r δ = .nx δ') ∨ (∃ x δ', h r δ = .exc x δ') ∨ h r δ = .bad
def Tgs (h : List D → Sl → SR) : Prop := ∀ r δ, (∃ δ', h r δ = .nx δ') ∨ (∃ x δ', h r δ = .exc x δ') ∨ h r δ = .bad
theorem tgt_name (i : Nat) : Tgt (tName i) := fun r δ => by
  unfold tName
  cases r with
  | imm d => exact .inl ⟨_, rfl⟩
  | own d => exact .inl ⟨_, rfl⟩
  | brw d => exact .inr (.inr rfl)
  | nst _ _ => exact .inr (.inr rfl)
theorem tgs_nil : Tgs tsNil := fun r δ => by
  unfold tsNil
  cases r with
  | nil => exact .inl ⟨_, rfl⟩
  | cons d ds => exact .inr (.inr rfl)
theorem tgs_cons {h : R → Sl → SR} {hs : List D → Sl → SR} (h1 : Tgt h) (h2 : Tgs hs) : Tgs (tsCons h hs) := fun r δ => by
  unfold tsCons
  cases r with
  | nil => exact .inr (.inr rfl)
  | cons d ds =>
    simp only
    rcases h1 (.imm d) δ with ⟨δ', e⟩ | ⟨x, δ', e⟩ | e
    · rw [e]; exact h2 ds δ'
    · rw [e]; exact .inr (.inl ⟨x, δ', rfl⟩)
    · rw [e]; exact .inr (.inr rfl)
theorem tgt_tup {n : Nat} {hs : List D → Sl → SR} (h : Tgs hs) : Tgt (tTup n hs) := fun r δ => by
  unfold tTup
  split
  · split
    · exact h _ _
    · exact .inr (.inr rfl)
  · split
    · exact h _ _
    · exact .inr (.inr rfl)
  · exact .inr (.inr rfl)
theorem tgt_sub {x : Nat} {fi : FD} : Tgt (tSub x fi) := fun r δ => by
  unfold tSub
  split
  · split
    · split
      · cases fi δ with
        | bad => exact .inr (.inr rfl)
        | exc x δ' => exact .inr (.inl ⟨x, δ', rfl⟩)
        | ok d δ1 =>
          simp only [Res.bindS_ok]
          split
          · split
            · exact .inl ⟨_, rfl⟩
            · exact .inr (.inr rfl)
          · split
            · exact .inl ⟨_, rfl⟩
            · exact .inr (.inr rfl)
          · exact .inr (.inr rfl)
      · exact .inr (.inr rfl)
    · exact .inr (.inr rfl)
  · exact .inr (.inr rfl)
theorem ds_asg {tg e : Expr} {pos : Pos} {f : FE} {h : R → Sl → SR} (he : DE M W X e f) (hg : DG M W X tg h) (hn : Tgt h) (hs : swapsWithSole [tg] e pos.line X.env = pure false := by rfl) (hw : swappedStores [tg] e X.env = pure none := by rfl)
    (h1 : (assignEach [tg] X.env).map (·.2) = [assign tg X.env] := by rfl) : DS M W X (.Assign [tg] e pos) (sAsg f h) := by
  obtain ⟨t, p, he⟩ := he
  obtain ⟨g, pg, hg⟩ := hg
  exact ⟨_, ps_asg p pg hs hw h1, asg_of he hg hn⟩
theorem ds_set {i : Nat} {x : Str} {e : Expr} {pos pos' : Pos} {f : FE} (hN : X.N.Nodup) (hi : X.N[i]? = some x) (hx : Loc X.env.scope x) (he : DE M W X e f) (hs : swapsWith e (some (.Name x pos')) pos.line X.env = pure false := by rfl) (hf : X.fn x = true ∨ X.env.scope.names.lookup x = some .local := by first | exact .inl rfl | exact .inr rfl | assumption) :
    DS M W X (.Assign [.Name x pos'] e pos) (sAsg f (tName i)) := by
  obtain ⟨t, p, he⟩ := he
  refine ⟨_, ps_set hN hi hx p hs hf, asg_of he (fun c F H σ δ v r Q ok rr post => ?_) (tgt_name i)⟩
  unfold tName at post
  cases r with
  | imm d => exact post F H _ (Same.refl _) (ok.setI i rr)
  | own o => exact post F H _ (Same.refl _) (ok.setO i rr)
  | brw o => exact post.elim
  | nst _ _ => exact post.elim
def Cn.guard (c : Cn M) (a : Addr) (o : HO) (hn : NT o) : Cn M := ⟨c.F0, fun b => if b = a then some o else c.H0 b, c.io, fun b h => by
  by_cases e : b = a
  · simp [e]
  · simp only [if_neg e]; exact c.iob b h, fun b u h => by
  by_cases e : b = a
  · simp only [if_pos e] at h; cases h; exact hn
  · simp only [if_neg e] at h; exact c.nt b u h, c.nd, fun z hz b hb => by
  obtain ⟨h1, h2, h3⟩ := c.ndh z hz b hb
  refine ⟨?_, h2, h3⟩
  by_cases e : b = a
  · simp [e]
  · simp only [if_neg e]; exact h1⟩
theorem Ok.guard {a : Addr} {o : HO} (ok : Ok c F H σ δ) (hF : F a = none) (h0 : c.H0 a = none) (ho : H a = some o) (hn : NT o) (hns : ∀ (i : Nat) (r : R), δ[i]? = some (some r) → r.mu = true → σ[i]? ≠ some (some (V.ref a))) : Ok (c.guard a o hn) F H σ δ := by
  have hio : c.io ≠ some a := fun z => c.iob a z h0
  have g0 : ∀ b, b ≠ a → (c.guard a o hn).H0 b = c.H0 b := fun b hb => if_neg hb
  refine ⟨ok.same, ok.grow, fun b e1 e2 => ?_, fun b u e1 e2 => ?_, ok.ioh, ok.tb, ok.len, fun i r e => ?_, ok.dist⟩
  · by_cases z : b = a
    · rw [z]; exact hF
    · rw [g0 b z] at e1; exact ok.nofz b e1 e2
  · by_cases z : b = a
    · subst z
      have : (c.guard b o hn).H0 b = some o := if_pos rfl
      rw [this] at e1; cases e1
      exact ho
    · rw [g0 b z] at e1; exact ok.kept b u e1 e2
  · obtain ⟨v, e1, e2⟩ := ok.slot i r e
    refine ⟨v, e1, ?_⟩
    cases r with
    | imm d => exact e2
    | own ob =>
      obtain ⟨b, rfl, k1, k2, k3⟩ := e2
      have z : b ≠ a := fun z => hns i _ e rfl (by rw [e1, z])
      exact ⟨b, rfl, k1, by rw [g0 b z]; exact k2, k3⟩
    | brw ob => exact e2
    | nst tp ps =>
      obtain ⟨b, vs, h1, h2, h3⟩ := e2
      exact ⟨b, vs, h1, h2, h3.mono (Same.refl _) fun b' hb => g0 b' fun z => (c.ndh _ h2 b' hb).1 (z ▸ h0)⟩
theorem Ok.unguard {a : Addr} {o : HO} {hn : NT o} (ok : Ok (c.guard a o hn) F H σ δ) (h0 : c.H0 a = none) : Ok c F H σ δ ∧ (c.F0 a = none → F a = none) ∧ H a = some o ∧ (∀ (i : Nat) (r : R), δ[i]? = some (some r) → r.mu = true → σ[i]? ≠ some (some (V.ref a))) := by
  have hio : c.io ≠ some a := fun z => c.iob a z h0
  have g0 : ∀ b, b ≠ a → (c.guard a o hn).H0 b = c.H0 b := fun b hb => if_neg hb
  have ga : (c.guard a o hn).H0 a = some o := if_pos rfl
  have ne : ∀ b, c.H0 b ≠ none → b ≠ a := fun b h z => h (z ▸ h0)
  refine ⟨⟨ok.same, ok.grow, fun b e1 e2 => ok.nofz b (by rw [g0 b (ne b e1)]; exact e1) e2, fun b u e1 e2 => ok.kept b u (by rw [g0 b (ne b (by rw [e1]; exact fun z => by cases z))]; exact e1) e2, ok.ioh, ok.tb, ok.len, fun i r e => ?_, ok.dist⟩, fun hF => ok.nofz a (by rw [ga]; exact fun z => by cases z) hF, ok.kept a o ga hio, fun i r e m z => ?_⟩
  · obtain ⟨v, e1, e2⟩ := ok.slot i r e
    refine ⟨v, e1, ?_⟩
    cases r with
    | imm d => exact e2
    | own ob =>
      obtain ⟨b, rfl, k1, k2, k3⟩ := e2
      have z : b ≠ a := fun z => by rw [z, ga] at k2; cases k2
      exact ⟨b, rfl, k1, by rw [← g0 b z]; exact k2, k3⟩
    | brw ob => exact e2
    | nst tp ps =>
      obtain ⟨b, vs, h1, h2, h3⟩ := e2
      exact ⟨b, vs, h1, h2, h3.mono (Same.refl _) fun b' hb => (g0 b' fun z => (c.ndh _ h2 b' hb).1 (z ▸ h0)).symm⟩
  · obtain ⟨b, ob, e1, e2, e3, e4⟩ := ok.mus e m
    rw [e1] at z; cases z
    rcases e4 with ⟨_, k⟩ | ⟨_, k⟩
    · rw [ga] at k; cases k
    · exact hio k
def sPar (i j : Nat) (f g : FE) : FS := fun δ => (f δ).bindS fun r δ1 => match r with
  | .brw _ => .bad
  | .nst _ _ => .bad
  | r => (g δ1).bindS fun r' δ2 => match r' with
    | .brw _ => .bad
    | .nst _ _ => .bad
    | r' => .nx ((δ2.set i (some r)).set j (some r'))
theorem repR_setI {d : D} {v w : V} {r : R} {i : Nat} (h : repR c F H σ δ r w) : repR c F H (σ.set i (some v)) (δ.set i (some (.imm d))) r w := by
  have key : ∀ a : Addr, (∀ (k : Nat) (r : R), δ[k]? = some (some r) → r.mu = true → σ[k]? ≠ some (some (V.ref a))) → ∀ (k : Nat) (r : R), (δ.set i (some (.imm d)))[k]? = some (some r) → r.mu = true → (σ.set i (some v))[k]? ≠ some (some (V.ref a)) := fun a h4 k r e m => by
    rcases getElem?_set_some e with ⟨_, z, _⟩ | ⟨hn, e⟩
    · cases z; cases m
    · rw [List.getElem?_set_ne hn]; exact h4 k r e m
  cases r with
  | imm d' => exact h
  | brw o => exact h
  | own o =>
    obtain ⟨a, rfl, h1, h2, h3, h4⟩ := h
    exact ⟨a, rfl, h1, h2, h3, key a h4⟩
  | nst tp ps =>
    obtain ⟨a, vs, h1, h2, h3⟩ := h
    exact ⟨a, vs, h1, h2, fun b hb => ⟨(h3 b hb).1, (h3 b hb).2.1, key b (h3 b hb).2.2⟩⟩
theorem ds_par {i j : Nat} {x y : Str} {a b : Expr} {f g : FE} {px py pt pos : Pos} {kt k2 pt2} (hc : X.calm = true) (hN : X.N.Nodup) (hi : X.N[i]? = some x) (hj : X.N[j]? = some y) (hij : i ≠ j)
    (hx : X.env.scope.names.lookup x = some .local) (hy : X.env.scope.names.lookup y = some .local) (ha : DE M W X a f) (hb : DE M W X b g)
    (hw : swappedStores [.Tuple [.Name x px, .Name y py] kt pt] (.Tuple [a, b] k2 pt2) X.env = pure (some [x, y]))
    (hs : swapsWithSole [.Tuple [.Name x px, .Name y py] kt pt] (.Tuple [a, b] k2 pt2) pos.line X.env = pure false := by rfl)
    (h1 : starEach (a :: [b]) X.env = (false, eval a X.env) :: starEach [b] X.env := by rfl) (h2 : starEach (b :: []) X.env = (false, eval b X.env) :: starEach [] X.env := by rfl) :
    DS M W X (.Assign [.Tuple [.Name x px, .Name y py] kt pt] (.Tuple [a, b] k2 pt2) pos) (sPar i j f g) := by
  obtain ⟨t, p, ha⟩ := ha
  obtain ⟨t', p', hb⟩ := hb
  refine ⟨_, ps_par hc hN hi hj hij hx hy (pa_cons p (pa_cons p' pa_nil h2) h1) hw hs, fun c F H σ δ E ok post => ha c F H σ δ _ ok (PostS.ofE post fun r δ1 v F1 H1 _ s1 ok1 rr post => ?_)⟩
  cases r with
  | brw o => exact post.elim
  | nst _ _ => exact post.elim
  | imm d =>
    refine hb c F1 H1 σ δ1 _ ok1 (PostS.ofE post fun r' δ2 w F2 H2 _ s2 ok2 rr' post => ⟨v, w, rfl, ?_⟩)
    have rv : rep M F2 d v := rep_mono s2 _ _ rr
    cases r' with
    | brw o => exact post.elim
    | nst _ _ => exact post.elim
    | imm d' => exact post F2 H2 _ (Same.refl _) ((ok2.setI i rv).setI j rr')
    | own o' => exact post F2 H2 _ (Same.refl _) ((ok2.setI i rv).setO j (repR_setI rr'))
  | own o =>
    obtain ⟨a, rfl, k1, k2, k3, k4⟩ := rr
    obtain ⟨u, hu, hn⟩ := obAt_nt k3
    have okg := ok1.guard k1 k2 hu hn k4
    have f0 : c.F0 a = none := by
      cases z : c.F0 a with
      | none => rfl
      | some q => rw [ok1.grow a q z] at k1; cases k1
    have un : ∀ {F2 H2 : Hp} {δ2 : Sl}, Same F1 F2 → Ok (c.guard a u hn) F2 H2 σ δ2 → Ok c F2 H2 σ δ2 ∧ repR c F2 H2 σ δ2 (.own o) (.ref a) := fun {F2 H2 δ2} g ok2 => by
      obtain ⟨q1, q2, q3, q4⟩ := ok2.unguard k2
      exact ⟨q1, a, rfl, q2 f0, k2, obAt_mono g (q3.trans hu.symm) k3, q4⟩
    refine hb (c.guard a u hn) F1 H1 σ δ1 _ okg ?_
    cases q : g δ1 with
    | bad => rw [q] at post; exact post
    | exc x δ2 => rw [q] at post; exact fun cls d F2 H2 g ok2 xa => post cls d F2 H2 σ g (un g ok2).1 xa
    | ok r' δ2 =>
      rw [q] at post
      intro w F2 H2 s2 ok2 rr'
      refine ⟨.ref a, w, rfl, ?_⟩
      obtain ⟨ok3, ro⟩ := un s2 ok2
      cases r' with
      | brw o => exact post.elim
      | nst _ _ => exact post.elim
      | imm d' => exact post F2 H2 _ s2 ((ok3.setO i ro).setI j rr')
      | own o' =>
        obtain ⟨b, rfl, l1, l2, l3, l4⟩ := rr'
        have hba : b ≠ a := fun z => by
          have : (c.guard a u hn).H0 a = some u := if_pos rfl
          rw [z, this] at l2; cases l2
        have l2' : c.H0 b = none := by
          have : (c.guard a u hn).H0 b = c.H0 b := if_neg hba
          rw [← this]; exact l2
        refine post F2 H2 _ s2 ((ok3.setO i ro).setO j ⟨b, rfl, l1, l2', l3, fun k r e m => ?_⟩)
        rcases getElem?_set_some e with ⟨rfl, z, hl⟩ | ⟨hn, e⟩
        · rw [List.getElem?_set_self (by rw [ok3.len]; exact hl)]
          intro z; cases z; exact hba rfl
        · rw [List.getElem?_set_ne hn]; exact l4 k r e m
end
end
end TS

namespace TS
open PySem L2
noncomputable section
def ovH (F fr : Hp) : Hp := fun b => match F b with
  | some o => some o
  | none => fr b
def Yl (M : Gm) (F H : Hp) (x : V) (H' : Hp) (d : D) : Prop := ∃ fr : Hp, (∀ b o, fr b = some o → (∃ ws, o = HO.tup ws) ∧ H' b = some o) ∧ Same H H' ∧ rep M (ovH F fr) d x
theorem ovH_grow {F fr : Hp} : Same F (ovH F fr) := fun b o e => by unfold ovH; rw [e]
theorem Yl.same {M : Gm} {F H : Hp} {x : V} {H' : Hp} {d : D} (e : H' = H) (r : rep M F d x) : Yl M F H x H' d :=
  ⟨fun _ => none, (fun _ _ z => by cases z), by rw [e]; exact Same.refl _, rep_mono ovH_grow _ _ r⟩
theorem Yl.new {M : Gm} {F H : Hp} {x : V} {H' : Hp} {d : D} (s : Same F H) {p : Addr} {ws : List V} {es : List D} (k1 : H p = none) (k2 : x = V.ref p) (k3 : H' = upd H p (.tup ws)) (k4 : d = .tup es) (r : reps M F es ws) : Yl M F H x H' d := by
  subst k2 k3 k4
  refine ⟨fun b => if b = p then some (.tup ws) else none, fun b o e => ?_, fun b o e => by rw [upd_ne (ne_of_none e k1)]; exact e, ?_⟩
  · dsimp only at e
    by_cases z : b = p
    · subst z; rw [if_pos rfl] at e; cases e; exact ⟨⟨_, rfl⟩, upd_same⟩
    · rw [if_neg z] at e; cases e
  · unfold rep
    refine ⟨p, ws, rfl, ?_, reps_mono ovH_grow _ _ r⟩
    unfold ovH
    rw [s.free k1]
    simp
theorem Yl.stp {M : Gm} {F F2 H : Hp} {x : V} {H' : Hp} {d : D} (y : Yl M F H x H' d) (g : Same F F2) (s : Same F2 H) (tb : Tb M F2 H) : ∃ F3, Stp M F2 H F3 H' none ∧ rep M F3 d x := by
  obtain ⟨fr, h1, h2, h3⟩ := y
  have sm : Same (ovH F2 fr) H' := fun b o e => by
    unfold ovH at e
    split at e
    · rename_i o' e'; cases e; exact h2 _ _ (s _ _ e')
    · exact (h1 b o e).2
  refine ⟨ovH F2 fr, ⟨ovH_grow, fun b o e n z => ?_, fun b o e n _ => h2 b o e, sm, ?_⟩, rep_mono (fun b o e => ?_) _ _ h3⟩
  · unfold ovH
    rw [z]
    cases q : fr b with
    | none => rfl
    | some o' =>
      obtain ⟨⟨ws, rfl⟩, q2⟩ := h1 b o' q
      rw [h2 b o e] at q2; cases q2; cases n
  · refine (tb.keep (fun b o e _ => h2 b o e) (fun b o e n z => z) tb.nt).keep (fun b o e _ => e) (fun b o e n z => ?_) fun b ps e => ?_
    · unfold ovH
      rw [z]
      cases q : fr b with
      | none => rfl
      | some o' =>
        obtain ⟨⟨ws, rfl⟩, q2⟩ := h1 b o' q
        rw [e] at q2; cases q2; exact absurd rfl n
    · unfold ovH at e
      split at e
      · rename_i o' e'; cases e; exact tb.nt b ps e'
      · obtain ⟨⟨ws, z⟩, _⟩ := h1 b _ e; cases z
  · unfold ovH at e ⊢
    split at e
    · rename_i o' e'; cases e; rw [g _ _ e']
    · cases q : F2 b with
      | none => exact e
      | some o2 =>
        have := h2 _ _ (s _ _ q)
        rw [(h1 b o e).2] at this
        cases this; rfl
def Walks (M : Gm) (J : It) (F : Hp) (ds : List D) : Prop := ∀ (i : Nat) (H : Hp), Same F H →
  (∀ d, ds[i]? = some d → J.go i H ∧ ∀ x H', J.yld i H x H' → Yl M F H x H' d) ∧ (ds[i]? = none → J.stop i H)
abbrev ρI (M : Gm) : Hp → Hp → Sl → List D → It → Prop := fun F _ _ ds J => Walks M J F ds
def DIt (M : Gm) (W : WX) (X : Cx) (tg e : Expr) (f : FA) : Prop := ∃ wi, PI X tg e wi ∧ ∀ (c : Cn M) F H σ δ (Q : It → Hp → Prop), Ok c F H σ δ → Post c W F σ (ρI M) (f δ) Q → wi σ H Q
section
variable {M : Gm} {c : Cn M} {W : WX} {X : Cx} {tg e : Expr} {F F1 H H1 : Hp} {σ : St} {δ : Sl}
theorem walks_list {a : Addr} {vs : List V} {ds : List D} (hK : X.K = M.K) (hF : F a = some (.lst vs)) (r : reps M F ds vs) : Walks M (Itl X.K a) F ds := fun i H s => by
  have hq : SqL X.K H a vs := SqL.of (s _ _ hF)
  refine ⟨fun d hd => ?_, fun hn => ⟨vs, hq, by rw [reps_length r]; exact List.getElem?_eq_none_iff.mp hn⟩⟩
  obtain ⟨v, e1, e2⟩ := reps_get r hd
  refine ⟨⟨vs, v, hq, e1⟩, fun x H' y => Yl.same y.1 ?_⟩
  have := y.2 vs hq
  rw [e1] at this; cases this
  exact e2
theorem walks_tup {a : Addr} {vs : List V} {ds : List D} (hK : X.K = M.K) (hF : SqT M.K F a vs) (r : reps M F ds vs) : Walks M (Itt X.K a) F ds := fun i H s => by
  have hq : SqT X.K H a vs := by rw [hK]; exact Same.seqT s hF
  refine ⟨fun d hd => ?_, fun hn => ⟨vs, hq, by rw [reps_length r]; exact List.getElem?_eq_none_iff.mp hn⟩⟩
  obtain ⟨v, e1, e2⟩ := reps_get r hd
  refine ⟨⟨vs, v, hq, e1⟩, fun x H' y => Yl.same y.1 ?_⟩
  have := y.2 vs hq
  rw [e1] at this; cases this
  exact e2
theorem rgD_get {lo : Int} {n i : Nat} : ((List.range n).map fun i => D.int (lo + (i : Nat)))[i]? = if i < n then some (.int (lo + (i : Nat))) else none := by
  rw [List.getElem?_map]
  by_cases h : i < n
  · rw [if_pos h, List.getElem?_range h]; rfl
  · rw [if_neg h, List.getElem?_eq_none (by simpa using h)]; rfl
theorem walks_range (lo : Int) (n : Nat) : Walks M (Itr lo n) F ((List.range n).map fun i => D.int (lo + (i : Nat))) := fun i H s => by
  rw [rgD_get]
  refine ⟨fun d hd => ?_, fun hn => ?_⟩
  · by_cases h : i < n
    · rw [if_pos h] at hd
      cases hd
      refine ⟨h, fun x H' y => Yl.same y.1 ?_⟩
      rw [y.2]; exact rep_int' _
    · rw [if_neg h] at hd; cases hd
  · by_cases h : i < n
    · rw [if_pos h] at hn; cases hn
    · exact Nat.le_of_not_lt h
def enumD (k : Nat) : List D → List D
  | [] => []
  | d :: ds => .tup [.int k, d] :: enumD (k + 1) ds
theorem enumD_get : ∀ (ds : List D) (k i : Nat), (enumD k ds)[i]? = (ds[i]?).map fun d => .tup [.int ((k + i : Nat) : Int), d]
  | [], k, i => by simp [enumD]
  | d :: ds, k, 0 => by simp [enumD]
  | d :: ds, k, i + 1 => by
    simp only [enumD, List.getElem?_cons_succ]
    rw [enumD_get ds (k + 1) i]
    have : k + 1 + i = k + (i + 1) := by omega
    rw [this]
theorem walks_enum {a : Addr} {vs : List V} {ds : List D} (hK : X.K = M.K) (hF : F a = some (.lst vs)) (r : reps M F ds vs) : Walks M (Ite X.K a) F (enumD 0 ds) := fun i H s => by
  have hq : SqL X.K H a vs := SqL.of (s _ _ hF)
  rw [enumD_get]
  refine ⟨fun d hd => ?_, fun hn => ⟨vs, hq, ?_⟩⟩
  · obtain ⟨d0, hd0, rfl⟩ := Option.map_eq_some_iff.mp hd
    obtain ⟨v, e1, e2⟩ := reps_get r hd0
    refine ⟨⟨vs, v, hq, e1⟩, fun x H' y => ?_⟩
    obtain ⟨T, x0, k1, k2, k3, k4⟩ := y
    have := k4 vs hq
    rw [e1] at this; cases this
    exact Yl.new s k2 k1 k3 rfl (reps_cons (by rw [Nat.zero_add]; exact rep_int' _) (reps_cons e2 reps_nil))
  · rw [reps_length r]
    exact List.getElem?_eq_none_iff.mp (by simpa using hn)
def zipD : List D → List D → List D
  | a :: as, b :: bs => .tup [a, b] :: zipD as bs
  | _, _ => []
def itSeq (f : FD) : FA := fun δ => (f δ).bind fun d δ => match d with
  | .lst ds => .ok ds δ
  | _ => .bad
def itTup (f : FD) : FA := fun δ => (f δ).bind fun d δ => match d with
  | .tup ds => .ok ds δ
  | .ktp ns => .ok (ns.map D.int) δ
  | _ => .bad
def itRg1 (f : FD) : FA := fun δ => (f δ).bind fun d δ => match d with
  | .int n => if gd (-4611686018427387904 ≤ n ∧ n < 4611686018427387904) then .ok (rgD 0 n) δ else .bad
  | _ => .bad
def itRg2 (f g : FD) : FA := fun δ => (f δ).bind fun d δ => (g δ).bind fun d' δ => match d, d' with
  | .int m, .int n => if gd (-4611686018427387904 ≤ m ∧ m < 4611686018427387904 ∧ -4611686018427387904 ≤ n ∧ n < 4611686018427387904) then .ok (rgD m n) δ else .bad
  | _, _ => .bad
def itEnum (f : FD) : FA := fun δ => (f δ).bind fun d δ => match d with
  | .lst ds => .ok (enumD 0 ds) δ
  | _ => .bad
theorem dit_list {f : FD} (h : DI M W X e f) (hK : X.K = M.K := by rfl) : DIt M W X tg e (itSeq f) := by
  obtain ⟨t, p, h⟩ := h
  refine ⟨_, pi_list p, fun c F H σ δ Q ok post => h c F H σ δ _ ok (Post.bind post fun d δ1 v F1 H1 _ s1 ok1 r post => ?_)⟩
  split at post
  · unfold ρD rep at r
    obtain ⟨a, vs, rfl, h2, h3⟩ := r
    exact ⟨a, rfl, ⟨vs, SqL.of (ok1.same _ _ h2)⟩, post.ok ok1 (walks_list hK h2 h3)⟩
  · exact post.elim
theorem dit_tup {f : FD} (h : DI M W X e f) (hK : X.K = M.K := by rfl) : DIt M W X tg e (itTup f) := by
  obtain ⟨t, p, h⟩ := h
  refine ⟨_, pi_tup p, fun c F H σ δ Q ok post => h c F H σ δ _ ok (Post.bind post fun d δ1 v F1 H1 _ s1 ok1 r post => ?_)⟩
  split at post
  · unfold ρD rep at r
    obtain ⟨a, vs, rfl, h2, h3⟩ := r
    exact ⟨a, rfl, ⟨vs, by rw [hK]; exact SqT.of (ok1.same _ _ h2)⟩, post.ok ok1 (walks_tup hK (SqT.of h2) h3)⟩
  · unfold ρD rep at r
    obtain ⟨a, rfl, h2⟩ := r
    exact ⟨a, rfl, ⟨_, by rw [hK]; exact itup_sq ok1.same h2⟩, post.ok ok1 (walks_tup hK (itup_sq (Same.refl _) h2) (reps_kt _))⟩
  · exact post.elim
theorem dit_rg1 {a : Expr} {f : FD} {p pos : Pos} (hg : Gl X "range") (hm : X.mg "range" = none) (h : DI M W X a f) (hs : starEach [a] X.env = [(false, eval a X.env)] := by rfl) (hs2 : starEach (a :: []) X.env = (false, eval a X.env) :: starEach [] X.env := by rfl) : DIt M W X tg (.Call (.Name "range" p) [a] [] pos) (itRg1 f) := by
  obtain ⟨t, pp, h⟩ := h
  refine ⟨_, pi_range1 hg hm (pa_cons pp pa_nil hs2) hs, fun c F H σ δ Q ok post => h c F H σ δ _ ok (Post.bind post fun d δ1 v F1 H1 _ s1 ok1 r post => ?_)⟩
  split at post
  · rename_i n _
    split at post
    · rename_i hc
      obtain ⟨h1, h2⟩ := of_gd hc
      unfold ρD rep at r
      subst r
      refine ⟨n, rfl, by omega, by omega, post.ok ok1 ?_⟩
      have := walks_range (M := M) (F := F1) 0 n.toNat
      unfold rgD
      rw [Int.sub_zero]
      exact this
    · exact post.elim
  · exact post.elim
theorem dit_rg2 {a b : Expr} {f g : FD} {p pos : Pos} (hg : Gl X "range") (hm : X.mg "range" = none) (h : DI M W X a f) (h' : DI M W X b g) (hs : starEach [a, b] X.env = [(false, eval a X.env), (false, eval b X.env)] := by rfl) (hs2 : starEach [b] X.env = [(false, eval b X.env)] := by rfl)
    (hs3 : starEach (a :: [b]) X.env = (false, eval a X.env) :: starEach [b] X.env := by rfl) (hs4 : starEach (b :: []) X.env = (false, eval b X.env) :: starEach [] X.env := by rfl) : DIt M W X tg (.Call (.Name "range" p) [a, b] [] pos) (itRg2 f g) := by
  obtain ⟨t, pp, h⟩ := h
  obtain ⟨t', pp', h'⟩ := h'
  refine ⟨_, pi_range2 hg hm (pa_cons pp (pa_cons pp' pa_nil hs4) hs3) hs hs2, fun c F H σ δ Q ok post => h c F H σ δ _ ok (Post.bind post fun d δ1 v F1 H1 _ s1 ok1 r post => h' c F1 H1 σ δ1 _ ok1 (Post.bind post fun d' δ2 v' F2 H2 _ s2 ok2 r' post => ?_))⟩
  obtain ⟨m, rfl⟩ : ∃ m, d = .int m := by cases d <;> first | exact ⟨_, rfl⟩ | exact post.elim
  obtain ⟨n, rfl⟩ : ∃ n, d' = .int n := by cases d' <;> first | exact ⟨_, rfl⟩ | exact post.elim
  simp only at post
  split at post
  · rename_i hc
    obtain ⟨h1, h2, h3, h4⟩ := of_gd hc
    unfold ρD rep at r r'
    subst r
    subst r'
    exact ⟨m, n, rfl, ⟨by omega, by omega, by omega, by omega⟩, post.ok ok2 (walks_range (M := M) (F := F2) m (n - m).toNat)⟩
  · exact post.elim
theorem dit_enum {a : Expr} {f : FD} {p pos tpos : Pos} {elts : List Expr} {kk : Nat} (hg : Gl X "enumerate") (hm : X.mg "enumerate" = none) (h : DI M W X a f) (hK : X.K = M.K := by rfl) (hs : starEach [a] X.env = [(false, eval a X.env)] := by rfl) (hs2 : starEach (a :: []) X.env = (false, eval a X.env) :: starEach [] X.env := by rfl) :
    DIt M W X (.Tuple elts kk tpos) (.Call (.Name "enumerate" p) [a] [] pos) (itEnum f) := by
  obtain ⟨t, pp, h⟩ := h
  refine ⟨_, pi_enum hg hm (pa_cons pp pa_nil hs2) hs, fun c F H σ δ Q ok post => h c F H σ δ _ ok (Post.bind post fun d δ1 v F1 H1 _ s1 ok1 r post => ?_)⟩
  split at post
  · unfold ρD rep at r
    obtain ⟨a, vs, rfl, h2, h3⟩ := r
    exact ⟨a, vs, rfl, SqL.of (ok1.same _ _ h2), post.ok ok1 (walks_enum hK h2 h3)⟩
  · exact post.elim
def forL (tg : R → Sl → SR) (body : FS) : List D → FS
  | [], δ => .nx δ
  | d :: ds, δ => match (tg (.imm d) δ).bind body with
    | .nx δ' => forL tg body ds δ'
    | .ct δ' => forL tg body ds δ'
    | .bk δ' => .nx δ'
    | r => r
def sFor (fi : FA) (tg : R → Sl → SR) (body : FS) : FS := fun δ => (fi δ).bindS fun ds δ1 => forL tg body ds δ1
theorem Walks.turn {J : It} {F0 : Hp} {ds : List D} (w : Walks M J F0 ds) (g : Same F0 F) (ok : Ok c F H σ δ) {i : Nat} {d : D} (hd : ds[i]? = some d) : J.go i H ∧ ∀ x H', J.yld i H x H' → ∃ F', Same F F' ∧ Ok c F' H' σ δ ∧ rep M F' d x := by
  obtain ⟨h1, h2⟩ := (w i H (g.trans ok.same)).1 d hd
  refine ⟨h1, fun x H' y => ?_⟩
  obtain ⟨F3, st, r⟩ := (h2 x H' y).stp g ok.same ok.tb
  exact ⟨F3, st.grow, ok.stp st, r⟩
theorem ds_for {iter : Expr} {ss : List Stmt} {pos : Pos} {fi : FA} {ft : R → Sl → SR} {body : FS} (hp : PassesOwn (model X.prog X.w) X.A X.env X.xe) (hc : X.calm = true) (hi : DIt M W X tg iter fi) (hg : DG M W X tg ft) (hn : Tgt ft) (hb : DSs M W X ss body)
    (hs : ∀ x, foldedSetIterable iter X.env x = pure x := by intro _; rfl) : DS M W X (.For tg iter ss [] pos) (sFor fi ft body) := by
  obtain ⟨wi, pi, hi⟩ := hi
  obtain ⟨g, pg, hg⟩ := hg
  obtain ⟨tb, pb, hb⟩ := hb
  refine ⟨_, ps_for hp hc pi pg pb hs, fun c F H σ δ E ok post => hi c F H σ δ _ ok (PostS.ofE post fun ds δ1 J F1 H1 _ s1 ok1 wk post => ?_)⟩
  refine ⟨fun i m σ H => i ≤ ds.length ∧ m = ds.length - i ∧ ∃ F' δ', Same F1 F' ∧ Ok c F' H σ δ' ∧ PostS c W F' (forL ft body (ds.drop i) δ') E, ⟨ds.length, Nat.zero_le _, rfl, F1, δ1, Same.refl _, ok1, post⟩, ?_⟩
  rintro i m σ2 H2 ⟨hi, rfl, F2, δ2, g2, ok2, post⟩
  by_cases hl : i < ds.length
  · right
    have hd : ds[i]? = some ds[i] := List.getElem?_eq_getElem hl
    obtain ⟨k1, k2⟩ := Walks.turn wk g2 ok2 hd
    refine ⟨k1, fun σ' H' => ∃ F' δ', Same F1 F' ∧ Ok c F' H' σ' δ' ∧ PostS c W F' (forL ft body (ds.drop (i + 1)) δ') E, fun σ' H' h => ⟨ds.length - (i + 1), by omega, by omega, rfl, h⟩, fun x H' y => ?_⟩
    obtain ⟨F3, g3, ok3, r3⟩ := k2 x H' y
    rw [List.drop_eq_getElem_cons hl] at post
    unfold forL at post
    refine hg c F3 H' σ2 δ2 x (.imm ds[i]) _ ok3 r3 ?_
    have post := PostS.shift post g3
    rcases hn (.imm ds[i]) δ2 with ⟨δ3, e3⟩ | ⟨xx, δ3, e3⟩ | e3
    · rw [e3] at post ⊢
      simp only [SR.bind_nx] at post
      intro F4 H4 σ4 g4 ok4
      refine hb c F4 H4 σ4 δ3 _ ok4 ?_
      have post := PostS.shift post g4
      have gg : Same F1 F4 := (g2.trans g3).trans g4
      cases q : body δ3 with
      | nx δ5 => rw [q] at post; exact fun F5 H5 σ5 g5 ok5 => ⟨F5, δ5, gg.trans g5, ok5, PostS.shift post g5⟩
      | ct δ5 => rw [q] at post; exact fun F5 H5 σ5 g5 ok5 => ⟨F5, δ5, gg.trans g5, ok5, PostS.shift post g5⟩
      | bk δ5 => rw [q] at post; exact post
      | rt r δ5 => rw [q] at post; exact post
      | exc x δ5 => rw [q] at post; exact post
      | bad => rw [q] at post; exact post
    · rw [e3] at post ⊢; exact post
    · rw [e3] at post; exact post.elim
  · left
    have hi' : i = ds.length := by omega
    subst hi'
    refine ⟨(wk _ H2 (g2.trans ok2.same)).2 (List.getElem?_eq_none (Nat.le_refl _)), ?_⟩
    rw [List.drop_length] at post
    exact post F2 H2 σ2 (Same.refl _) ok2
def whileL (t : FT) (body : FS) : Nat → FS
  | 0, _ => .bad
  | n + 1, δ => (t δ).bindS fun b δ1 => if b then (match body δ1 with
    | .nx δ' => whileL t body n δ'
    | .ct δ' => whileL t body n δ'
    | .bk δ' => .nx δ'
    | r => r) else .nx δ1
def sWhile (μ : Sl → Nat) (t : FT) (body : FS) : FS := fun δ => whileL t body (μ δ) δ
theorem ds_while {cnd : Expr} {ss : List Stmt} {pos : Pos} {t : FT} {body : FS} (μ : Sl → Nat) (hp : PassesOwn (model X.prog X.w) X.A X.env X.xe) (hc : DT M W X cnd t) (hb : DSs M W X ss body) : DS M W X (.While cnd ss [] pos) (sWhile μ t body) := by
  obtain ⟨tc, pc, hc⟩ := hc
  obtain ⟨tb, pb, hb⟩ := hb
  refine ⟨_, ps_while hp pc pb, fun c F H σ δ E ok post => ?_⟩
  refine ⟨fun m σ H => ∃ F' δ', Same F F' ∧ Ok c F' H σ δ' ∧ PostS c W F' (whileL t body m δ') E, ⟨μ δ, F, δ, Same.refl _, ok, post⟩, ?_⟩
  rintro m σ2 H2 ⟨F2, δ2, g2, ok2, post⟩
  cases m with
  | zero => exact post.elim
  | succ n =>
    unfold whileL at post
    refine hc c F2 H2 σ2 δ2 _ ok2 (PostS.ofE post fun b δ3 k F3 H3 _ g3 ok3 e post => ?_)
    cases (show b = k from e)
    cases b with
    | false => exact post F3 H3 σ2 (Same.refl _) ok3
    | true =>
      refine ⟨fun σ' H' => ∃ F' δ', Same F F' ∧ Ok c F' H' σ' δ' ∧ PostS c W F' (whileL t body n δ') E, fun σ' H' h => ⟨n, Nat.lt_succ_self n, h⟩, hb c F3 H3 σ2 δ3 _ ok3 ?_⟩
      have gg : Same F F3 := g2.trans g3
      cases q : body δ3 with
      | nx δ5 => simp only [q, if_true] at post; exact fun F5 H5 σ5 g5 ok5 => ⟨F5, δ5, gg.trans g5, ok5, PostS.shift post g5⟩
      | ct δ5 => simp only [q, if_true] at post; exact fun F5 H5 σ5 g5 ok5 => ⟨F5, δ5, gg.trans g5, ok5, PostS.shift post g5⟩
      | bk δ5 => simp only [q, if_true] at post; exact post
      | rt r δ5 => simp only [q, if_true] at post; exact post
      | exc x δ5 => simp only [q, if_true] at post; exact post
      | bad => simp only [q, if_true] at post; exact post
end
end
end TS

namespace TS
open PySem L2
noncomputable section
abbrev W0 : WX := fun _ _ _ _ => False
def canD (M : Gm) (W : WX) (f : FD) : TE := fun σ H Q => ∃ (c : Cn M) (F : Hp) (δ : Sl), Ok c F H σ δ ∧ Post c W F σ (ρD c) (f δ) Q
def canT (M : Gm) (W : WX) (f : FT) : TT := fun σ H Q => ∃ (c : Cn M) (F : Hp) (δ : Sl), Ok c F H σ δ ∧ Post c W F σ ρT (f δ) Q
section
variable {M : Gm} {c : Cn M} {W : WX} {X : Cx} {tg e : Expr} {F F1 H H1 : Hp} {σ : St} {δ : Sl}
theorem DI.can {f : FD} (h : DI M W X e f) : PE X e (canD M W f) := by
  obtain ⟨t, p, h⟩ := h
  exact ⟨fun pins s σ H Q I ⟨c, F, δ, ok, post⟩ => p.run pins s σ H Q I (h c F H σ δ Q ok post)⟩
theorem DT.can {f : FT} (h : DT M W X e f) : PT X e (canT M W f) := by
  obtain ⟨t, p, h⟩ := h
  exact ⟨fun pins s σ H Q I ⟨c, F, δ, ok, post⟩ => p.run pins s σ H Q I (h c F H σ δ Q ok post)⟩
def wipeD (δ : Sl) : List Nat → Sl
  | [] => δ
  | v :: vs => (wipeD δ vs).set v none
theorem Ok.clr (ok : Ok c F H σ δ) (i : Nat) : Ok c F H (σ.set i none) (δ.set i none) where
  same := ok.same
  grow := ok.grow
  nofz := ok.nofz
  kept := ok.kept
  ioh := ok.ioh
  tb := ok.tb
  len := by simp [ok.len]
  slot := fun j r e => by
    rcases getElem?_set_some e with ⟨_, z, _⟩ | ⟨hn, e⟩
    · cases z
    · rw [List.getElem?_set_ne hn]; exact ok.slot j r e
  dist := fun j k r1 r2 w hjk e1 e2 m1 m2 s1 s2 => by
    rcases getElem?_set_some e1 with ⟨_, z, _⟩ | ⟨hn, e1⟩
    · cases z
    · rcases getElem?_set_some e2 with ⟨_, z, _⟩ | ⟨hn2, e2⟩
      · cases z
      · rw [List.getElem?_set_ne hn] at s1
        rw [List.getElem?_set_ne hn2] at s2
        exact ok.dist j k r1 r2 w hjk e1 e2 m1 m2 s1 s2
theorem Ok.wipe (ok : Ok c F H σ δ) : ∀ vs : List Nat, Ok c F H (L2.wipe σ vs) (wipeD δ vs)
  | [] => ok
  | v :: vs => (Ok.wipe ok vs).clr v
theorem Ok.unwipe {vs : List Nat} (ok : Ok c F H (L2.wipe σ vs) δ) : Ok c F H σ δ where
  same := ok.same
  grow := ok.grow
  nofz := ok.nofz
  kept := ok.kept
  ioh := ok.ioh
  tb := ok.tb
  len := by rw [← ok.len, wipe_length]
  slot := fun j r e => by
    obtain ⟨v, e1, e2⟩ := ok.slot j r e
    exact ⟨v, (wipe_some e1).1, e2⟩
  dist := fun j k r1 r2 w hjk e1 e2 m1 m2 s1 s2 => by
    obtain ⟨v, k1, _⟩ := ok.slot j r1 e1
    obtain ⟨v', k2, _⟩ := ok.slot k r2 e2
    have z1 := (wipe_some k1).1
    have z2 := (wipe_some k2).1
    rw [s1] at z1; cases z1
    rw [s2] at z2; cases z2
    exact ok.dist j k r1 r2 w hjk e1 e2 m1 m2 k1 k2
theorem Ok.poke (ok : Ok c F H σ δ) {p : Addr} {o : HO} (hp : ∀ u, H p = some u → NT u) (hF : F p = none) (h0 : c.H0 p = none) (hns : ∀ (i : Nat) (r : R), δ[i]? = some (some r) → r.mu = true → σ[i]? ≠ some (some (V.ref p))) : Ok c F (upd H p o) σ δ where
  same := fun b u e => by
    have : b ≠ p := fun z => by rw [z, hF] at e; cases e
    rw [upd_ne this]; exact ok.same b u e
  grow := ok.grow
  nofz := ok.nofz
  kept := fun b u e hi => by
    have : b ≠ p := fun z => by rw [z, h0] at e; cases e
    rw [upd_ne this]; exact ok.kept b u e hi
  ioh := fun a e => by
    have q : a ≠ p := fun z => c.iob a e (z ▸ h0)
    rw [upd_ne q]; exact ok.ioh a e
  tb := ok.tb.keep (fun b u e z => by rw [upd_ne (fun (y : b = p) => z (hp u (by rw [← y]; exact e)))]; exact e) (fun _ _ _ _ q => q) ok.tb.nt
  len := ok.len
  slot := fun i r e => by
    obtain ⟨v, e1, e2⟩ := ok.slot i r e
    refine ⟨v, e1, ?_⟩
    cases r with
    | imm d => exact e2
    | own ob =>
      obtain ⟨a, rfl, h1, h2, h3⟩ := e2
      have : a ≠ p := fun z => hns i _ e rfl (by rw [e1, z])
      exact ⟨a, rfl, h1, h2, obAt_mono (Same.refl _) (upd_ne this) h3⟩
    | brw ob =>
      obtain ⟨a, rfl, h1, h2, h3⟩ := e2
      have : a ≠ p := fun z => hns i _ e rfl (by rw [e1, z])
      exact ⟨a, rfl, h1, h2, obAt_mono (Same.refl _) (upd_ne this) h3⟩
    | nst tp ps => exact e2
  dist := ok.dist
theorem f0_none (ok : Ok c F H σ δ) {a : Addr} (h : F a = none) : c.F0 a = none := by
  cases z : c.F0 a with
  | none => rfl
  | some q => rw [ok.grow a q z] at h; cases h
def noX {α : Type} (r : Res α) : Res α := match r with
  | .exc _ _ => .bad
  | r => r
def lcL (setT : D → Sl → Option Sl) (vs : List Nat) (ft : FT) (fe : FD) : List D → List D → Sl → Res (List D)
  | [], acc, δ => .ok acc δ
  | d :: ds, acc, δ => match setT d δ with
    | none => .bad
    | some δ0 => (noX (ft δ0)).bind fun b δ1 => if b then (noX (fe δ1)).bind fun y δ2 => if acc.length < 16777216 then lcL setT vs ft fe ds (acc ++ [y]) (wipeD δ2 vs) else .bad else lcL setT vs ft fe ds acc (wipeD δ1 vs)
def freeS (δ : Sl) (i : Nat) : Bool := match δ[i]? with
  | some none => true
  | some (some (.imm _)) => true
  | _ => false
def restD (δ1 : Sl) : List Nat → Sl → Sl
  | [], δ => δ
  | v :: vs, δ => restD δ1 vs (δ.set v ((δ1[v]?).join))
def fLc (setT : D → Sl → Option Sl) (vs : List Nat) (fi : FA) (ft : FT) (fe : FD) : FE := fun δ => (fi δ).bind fun ds δ1 => if vs.all (freeS δ1) then
    (lcL setT vs ft fe ds [] (wipeD δ1 vs)).bind fun acc δ2 => .ok (.own (.l acc)) (restD δ1 vs δ2) else .bad
def SetT (M : Gm) (vs : List Nat) (g : TG) (setT : D → Sl → Option Sl) : Prop := ∀ (c : Cn M) (F H : Hp) (σ : St) (δ δ' : Sl) (x : V) (d : D) (k : St → Hp → Prop), Ok c F H σ δ → rep M F d x → setT d δ = some δ' → L2.wipe σ vs = σ →
  (∀ σ2, Ok c F H σ2 δ' → L2.wipe σ2 vs = σ → k σ2 H) → g x σ H k
theorem restD_ok {δ1 : Sl} (ok1 : Ok c F1 H1 σ δ1) (g : Same F1 F) : ∀ (vs : List Nat) {δ : Sl}, vs.all (freeS δ1) = true → Ok c F H σ δ → Ok c F H σ (restD δ1 vs δ) ∧ (∀ (i : Nat) (r : R), (restD δ1 vs δ)[i]? = some (some r) → r.mu = true → ∃ r0, δ[i]? = some (some r0) ∧ r0.mu = true)
  | [], δ, _, ok => ⟨ok, fun i r e m => ⟨r, e, m⟩⟩
  | v :: vs, δ, hf, ok => by
    rw [List.all_cons, Bool.and_eq_true] at hf
    have key : Ok c F H σ (δ.set v ((δ1[v]?).join)) ∧ (∀ (i : Nat) (r : R), (δ.set v ((δ1[v]?).join))[i]? = some (some r) → r.mu = true → ∃ r0, δ[i]? = some (some r0) ∧ r0.mu = true) := by
      have h := hf.1
      unfold freeS at h
      split at h
      · rename_i q
        rw [q]
        refine ⟨ok.drop v, fun i r e m => ?_⟩
        rcases getElem?_set_some e with ⟨_, z, _⟩ | ⟨_, e⟩
        · cases z
        · exact ⟨r, e, m⟩
      · rename_i d q
        rw [q]
        obtain ⟨w, e1, e2⟩ := ok1.slot v _ q
        refine ⟨ok.setSame e1 (rep_mono g _ _ e2), fun i r e m => ?_⟩
        rcases getElem?_set_some e with ⟨_, z, _⟩ | ⟨_, e⟩
        · have z' : (R.imm d) = r := by simpa using z
          subst z'; cases m
        · exact ⟨r, e, m⟩
      · cases h
    obtain ⟨k1, k2⟩ := restD_ok ok1 g vs hf.2 key.1
    refine ⟨k1, fun i r e m => ?_⟩
    obtain ⟨r0, e0, m0⟩ := k2 i r e m
    exact key.2 i r0 e0 m0
theorem wipe_idem (σ : St) : ∀ vs : List Nat, L2.wipe (L2.wipe σ vs) vs = L2.wipe σ vs := fun vs => by
  apply List.ext_getElem?
  intro j
  by_cases hj : j ∈ vs
  · have key : ∀ (τ : St) (us : List Nat), j ∈ us → (L2.wipe τ us)[j]? = if j < τ.length then some none else none := by
      intro τ us
      induction us with
      | nil => intro h; cases h
      | cons u us ih =>
        intro h
        unfold L2.wipe
        by_cases e : u = j
        · subst e
          by_cases hl : u < τ.length
          · rw [List.getElem?_set_self (by rw [wipe_length]; exact hl), if_pos hl]
          · rw [if_neg hl, List.getElem?_eq_none (by rw [List.length_set, wipe_length]; omega)]
        · rw [List.getElem?_set_ne e]
          rcases List.mem_cons.mp h with z | z
          · exact absurd z.symm e
          · exact ih z
    rw [key _ _ hj, key _ _ hj, wipe_length]
  · rw [wipe_out hj]
theorem lc_read {wi : TI} {g : TG} {fi : FA} {ft : FT} {fe : FD} {setT : D → Sl → Option Sl} {vs : List Nat} (hi : ∀ (c : Cn M) F H σ δ (Q : It → Hp → Prop), Ok c F H σ δ → Post c W F σ (ρI M) (fi δ) Q → wi σ H Q) (hg : SetT M vs g setT) :
    RE M W (tLc wi g (canT M W0 ft) (canD M W0 fe) vs) (fLc setT vs fi ft fe) := fun c F H σ δ Q ok post => by
  refine hi c F H σ δ _ ok (Post.bind post fun ds δ1 J F1 H1 _ s1 ok1 wk post => fun D hD => ?_)
  split at post
  · rename_i hfree
    have okA : Ok c F1 (upd H1 D (.lst [])) σ δ1 := ok1.alloc hD
    have okW : Ok c F1 (upd H1 D (.lst [])) (L2.wipe σ vs) (wipeD δ1 vs) := okA.wipe vs
    have h0 : c.H0 D = none := ok1.h0 hD
    refine ⟨fun k m H => k ≤ ds.length ∧ m = ds.length - k ∧ ∃ F' δ' acc as, Same F1 F' ∧ Ok c F' H (L2.wipe σ vs) δ' ∧ F' D = none ∧ H D = some (.lst as) ∧ reps M F' acc as ∧
        (∀ (i : Nat) (r : R), δ'[i]? = some (some r) → r.mu = true → (L2.wipe σ vs)[i]? ≠ some (some (V.ref D))) ∧
        Post c W F' σ (ρR c σ) ((lcL setT vs ft fe (ds.drop k) acc δ').bind fun acc δ2 => .ok (.own (.l acc)) (restD δ1 vs δ2)) Q,
      ⟨ds.length, Nat.zero_le _, rfl, F1, wipeD δ1 vs, [], [], Same.refl _, okW, ok1.f hD, upd_same, reps_nil, ?_, post⟩, ?_⟩
    · intro i r e m z
      obtain ⟨v, k1, k2⟩ := okW.slot i r e
      rw [k1] at z; cases z
      have k3 := (wipe_some k1).1
      -- the slot's object stood before D
      cases r with
      | imm d => cases m
      | own o =>
        obtain ⟨a, ea, q1, q2, q3⟩ := k2
        cases ea
        have ok1w := (ok1.wipe vs).slot i _ e
        obtain ⟨v', z1, a', ea', w1, w2, w3⟩ := ok1w
        rw [k1] at z1; cases z1; cases ea'
        obtain ⟨u, hu⟩ := obAt_some w3
        rw [hD] at hu; cases hu
      | brw o =>
        obtain ⟨a, ea, q1, q2, q3⟩ := k2
        cases ea
        have ok1w := (ok1.wipe vs).slot i _ e
        obtain ⟨v', z1, a', ea', w1, w2, w3⟩ := ok1w
        rw [k1] at z1; cases z1; cases ea'
        obtain ⟨u, hu⟩ := obAt_some w3
        rw [hD] at hu; cases hu
      | nst tp ps => cases m
    rintro k m H2 ⟨hk, rfl, F2, δ2, acc, as, g2, ok2, f2, d2, r2, n2, post⟩
    by_cases hl : k < ds.length
    · right
      have hd : ds[k]? = some ds[k] := List.getElem?_eq_getElem hl
      -- the list is held aside while the item comes and while the block runs
      have okg := ok2.guard f2 h0 d2 rfl n2
      obtain ⟨k1, k2⟩ := Walks.turn wk g2 okg hd
      rw [List.drop_eq_getElem_cons hl] at post
      unfold lcL at post
      refine ⟨k1, fun H' => ∃ F' δ' acc as, Same F1 F' ∧ Ok c F' H' (L2.wipe σ vs) δ' ∧ F' D = none ∧ H' D = some (.lst as) ∧ reps M F' acc as ∧
        (∀ (i : Nat) (r : R), δ'[i]? = some (some r) → r.mu = true → (L2.wipe σ vs)[i]? ≠ some (some (V.ref D))) ∧
        Post c W F' σ (ρR c σ) ((lcL setT vs ft fe (ds.drop (k + 1)) acc δ').bind fun acc δ2 => .ok (.own (.l acc)) (restD δ1 vs δ2)) Q, fun H' h => ⟨ds.length - (k + 1), by omega, by omega, rfl, h⟩, fun x H' y => ?_⟩
      obtain ⟨F3, g3, ok3, r3⟩ := k2 x H' y
      split at post
      · exact post.elim
      · rename_i δ0 e0
        refine hg (c.guard D (.lst as) rfl) F3 H' (L2.wipe σ vs) δ2 δ0 x ds[k] _ ok3 r3 e0 (wipe_idem σ vs) fun σ2 okS hw => ⟨hw, ?_⟩
        refine ⟨c.guard D (.lst as) rfl, F3, δ0, okS, ?_⟩
        cases q : ft δ0 with
        | bad => rw [q] at post; exact post.elim
        | exc x δ => rw [q] at post; exact post.elim
        | ok b δ4 =>
          rw [q] at post
          intro b' F4 H4 g4 ok4 eb
          cases (show b = b' from eb)
          have post : Post c W F2 σ (ρR c σ) ((if b then (noX (fe δ4)).bind fun y δ2 => if acc.length < 16777216 then lcL setT vs ft fe (ds.drop (k + 1)) (acc ++ [y]) (wipeD δ2 vs) else .bad else lcL setT vs ft fe (ds.drop (k + 1)) acc (wipeD δ4 vs)).bind fun acc δ2 => .ok (.own (.l acc)) (restD δ1 vs δ2)) Q := post
          cases b with
          | false =>
            obtain ⟨q1, q2, q3, q4⟩ := ok4.unguard h0
            have qw := q1.wipe vs
            rw [hw] at qw
            refine ⟨F4, wipeD δ4 vs, acc, as, (g2.trans g3).trans g4, qw, q2 (f0_none ok2 f2), q3, reps_mono (g3.trans g4) _ _ r2, fun i r e m z => ?_, Post.shift post (g3.trans g4)⟩
            obtain ⟨v, z1, z2⟩ := qw.slot i r e
            rw [z1] at z; cases z
            rw [← hw] at z1
            have z3 := (wipe_some z1)
            have e' : δ4[i]? = some (some r) := by
              have key : ∀ (us : List Nat), i ∉ us → (wipeD δ4 us)[i]? = δ4[i]? := by
                intro us
                induction us with
                | nil => intro _; rfl
                | cons u us ih =>
                  intro h
                  simp only [List.mem_cons, not_or] at h
                  unfold wipeD
                  rw [List.getElem?_set_ne (Ne.symm h.1)]
                  exact ih h.2
              rw [key vs z3.2] at e
              exact e
            exact q4 i r e' m z3.1
          | true =>
            refine ⟨c.guard D (.lst as) rfl, F4, δ4, ok4, ?_⟩
            cases q5 : fe δ4 with
            | bad => rw [q5] at post; exact post.elim
            | exc x δ => rw [q5] at post; exact post.elim
            | ok yd δ5 =>
              rw [q5] at post
              intro y F5 H5 g5 ok5 ry
              have post : Post c W F2 σ (ρR c σ) ((if acc.length < 16777216 then lcL setT vs ft fe (ds.drop (k + 1)) (acc ++ [yd]) (wipeD δ5 vs) else .bad).bind fun acc δ2 => .ok (.own (.l acc)) (restD δ1 vs δ2)) Q := post
              obtain ⟨q1, q2, q3, q4⟩ := ok5.unguard h0
              split at post
              · rename_i hlen
                have r5 : reps M F5 acc as := reps_mono ((g3.trans g4).trans g5) _ _ r2
                have f5 := q2 (f0_none ok2 f2)
                refine ⟨as, q3, by rw [reps_length r5, sizeLine_eq]; exact hlen, ?_⟩
                have qp : Ok c F5 (upd H5 D (.lst (as ++ [y]))) σ2 δ5 := q1.poke (fun u e => by rw [q3] at e; cases e; rfl) f5 h0 q4
                have qw := qp.wipe vs
                rw [hw] at qw
                refine ⟨F5, wipeD δ5 vs, acc ++ [yd], as ++ [y], ((g2.trans g3).trans g4).trans g5, qw, f5, upd_same, reps_append r5 (reps_cons ry reps_nil), fun i r e m z => ?_, Post.shift post ((g3.trans g4).trans g5)⟩
                obtain ⟨v, z1, z2⟩ := qw.slot i r e
                rw [z1] at z; cases z
                rw [← hw] at z1
                have z3 := (wipe_some z1)
                have e' : δ5[i]? = some (some r) := by
                  have key : ∀ (us : List Nat), i ∉ us → (wipeD δ5 us)[i]? = δ5[i]? := by
                    intro us
                    induction us with
                    | nil => intro _; rfl
                    | cons u us ih =>
                      intro h
                      simp only [List.mem_cons, not_or] at h
                      unfold wipeD
                      rw [List.getElem?_set_ne (Ne.symm h.1)]
                      exact ih h.2
                  rw [key vs z3.2] at e
                  exact e
                exact q4 i r e' m z3.1
              · exact post.elim
    · left
      have hk' : k = ds.length := by omega
      subst hk'
      refine ⟨(wk _ H2 (g2.trans ok2.same)).2 (List.getElem?_eq_none (Nat.le_refl _)), ?_⟩
      rw [List.drop_length] at post
      unfold lcL at post
      simp only [Res.bind_ok] at post
      have ok3 : Ok c F2 H2 σ δ2 := ok2.unwipe
      obtain ⟨ok4, m4⟩ := restD_ok ok1 g2 vs hfree ok3
      refine post.ok ok4 ⟨D, rfl, f2, h0, ⟨as, d2, r2⟩, fun i r e m z => ?_⟩
      obtain ⟨r0, e0, m0⟩ := m4 i r e m
      obtain ⟨v, z1, z2⟩ := ok2.slot i r0 e0
      have z3 := (wipe_some z1).1
      rw [z] at z3; cases z3
      exact n2 i r0 e0 m0 z1
  · exact post.elim
def stName (i : Nat) : D → Sl → Option Sl := fun d δ => some (δ.set i (some (.imm d)))
theorem st_name (i : Nat) : SetT M [i] (gName i) (stName i) := fun c F H σ δ δ' x d k ok r e hw q => by
  cases e
  refine q _ (ok.setI i r) ?_
  show (σ.set i (some x)).set i none = σ
  rw [List.set_set]
  exact hw
def stPair (i j : Nat) : D → Sl → Option Sl := fun d δ => match d with
  | .tup [a, b] => some ((δ.set i (some (.imm a))).set j (some (.imm b)))
  | .ktp [a, b] => some ((δ.set i (some (.imm (.int a)))).set j (some (.imm (.int b))))
  | _ => none
theorem st_pair {i j : Nat} (hij : i ≠ j) : SetT M [i, j] (gTup M.K 2 (gCons (gName i) (gCons (gName j) gNil))) (stPair i j) := fun c F H σ δ δ' x d k ok r e hw q => by
  unfold stPair at e
  split at e
  · rename_i a b
    cases e
    unfold rep at r
    obtain ⟨p, vs, rfl, h2, h3⟩ := r
    unfold reps at h3
    obtain ⟨v, r1, rfl, k1, h3⟩ := h3
    unfold reps at h3
    obtain ⟨w, r2, rfl, k2, h3⟩ := h3
    unfold reps at h3
    subst h3
    refine ⟨p, _, rfl, SqT.of (ok.same _ _ h2), rfl, v, _, rfl, w, _, rfl, rfl, q _ ((ok.setI i k1).setI j k2) ?_⟩
    show (((σ.set i (some v)).set j (some w)).set j none).set i none = σ
    rw [List.set_set, List.set_comm _ _ hij, List.set_set, List.set_comm _ _ (Ne.symm hij)]
    have : (σ.set j none).set i none = σ := hw
    rw [List.set_comm _ _ hij]
    exact this
  · rename_i a b
    cases e
    unfold rep at r
    obtain ⟨p, rfl, h2⟩ := r
    refine ⟨p, _, rfl, itup_sq ok.same h2, rfl, .int a, _, rfl, .int b, _, rfl, rfl, q _ ((ok.setI i (rep_int' a)).setI j (rep_int' b)) ?_⟩
    show (((σ.set i (some (V.int a))).set j (some (V.int b))).set j none).set i none = σ
    rw [List.set_set, List.set_comm _ _ hij, List.set_set, List.set_comm _ _ (Ne.symm hij)]
    have : (σ.set j none).set i none = σ := hw
    rw [List.set_comm _ _ hij]
    exact this
  · cases e
abbrev blkX (X : Cx) (scope : Scope) : Shared → Hp → Addr → List (Str × Addr) → List Addr → Cx := fun s H C cl fp => X.blk s H scope (compEnvC scope cl C X.env) fp
theorem de_lc {elt iter : Expr} {ifs : List Expr} {scope : Scope} {own : List (Str × Nat)} {pos : Pos} {g : TG} {fi : FA} {ft : FT} {fe : FD} {setT : D → Sl → Option Sl} {vs : List Nat} (hvs : own.map (·.2) = vs) (hc : X.calm = true) (hN : X.N.Nodup) (hi : DIt M W X tg iter fi) (ok : BlkOk X.N X.env.scope scope own)
    (hS : SetT M vs g setT) (hg : ∀ s H C cl fp, PG (blkX X scope s H C cl fp) tg g) (ht : ∀ s H C cl fp, PTs (blkX X scope s H C cl fp) ifs (canT M W0 ft)) (he : ∀ s H C cl fp, DI M W0 (blkX X scope s H C cl fp) elt fe) (hs : ∀ x, foldedSetIterable iter X.env x = pure x := by intro _; rfl) :
    DE M W X (.ListComp elt [⟨tg, iter, ifs, 0⟩] scope pos) (fLc setT vs fi ft fe) := by
  obtain ⟨wi, pi, hi⟩ := hi
  subst hvs
  exact ⟨_, pe_lc hc hN pi ok hg ht (fun s H C cl fp => (he s H C cl fp).can) hs, lc_read hi hS⟩
def tTrue : FT := fun δ => .ok true δ
theorem pts_no {X : Cx} : PTs X [] (canT M W0 tTrue) := ⟨fun pins s σ H Q I ⟨c, F, δ, ok, post⟩ => pts_nil.run pins s σ H Q I (post.ok ok rfl)⟩
theorem pts_if {X : Cx} {cn : Expr} {f : FT} (h : DT M W0 X cn f) : PTs X [cn] (canT M W0 f) := pts_one h.can
theorem ds_setLc {i : Nat} {y : Str} {py : Pos} {elt iter : Expr} {ifs : List Expr} {scope : Scope} {own : List (Str × Nat)} {pos spos : Pos} {g : TG} {fi : FA} {ft : FT} {fe : FD} {setT : D → Sl → Option Sl} {vs : List Nat} (hvs : own.map (·.2) = vs) (hc : X.calm = true) (hN : X.N.Nodup) (hy : X.N[i]? = some y) (hyl : X.env.scope.names.lookup y = some .local)
    (hsw : swapsWith (.ListComp elt [⟨tg, iter, ifs, 0⟩] scope pos) (some (.Name y py)) spos.line X.env = pure true) (hi : DIt M W X tg iter fi) (ok : BlkOk X.N X.env.scope scope own)
    (hS : SetT M vs g setT) (hg : ∀ s H C cl fp, PG (blkX X scope s H C cl fp) tg g) (ht : ∀ s H C cl fp, PTs (blkX X scope s H C cl fp) ifs (canT M W0 ft)) (he : ∀ s H C cl fp, DI M W0 (blkX X scope s H C cl fp) elt fe) (hs : ∀ x, foldedSetIterable iter X.env x = pure x := by intro _; rfl) :
    DS M W X (.Assign [.Name y py] (.ListComp elt [⟨tg, iter, ifs, 0⟩] scope pos) spos) (sAsg (fLc setT vs fi ft fe) (tName i)) := by
  obtain ⟨wi, pi, hi⟩ := hi
  subst hvs
  refine ⟨_, ps_setLc hc hN hy hyl hsw pi ok hg ht (fun s H C cl fp => (he s H C cl fp).can) hs, asg_of (lc_read hi hS) (fun c F H σ δ v r Q ok rr post => ?_) (tgt_name i)⟩
  unfold tName at post
  cases r with
  | imm d => exact post F H _ (Same.refl _) (ok.setI i rr)
  | own o => exact post F H _ (Same.refl _) (ok.setO i rr)
  | brw o => exact post.elim
  | nst _ _ => exact post.elim
def ioN : Option OB → Nat
  | none => 0
  | some _ => 1
def ioS : Option OB → Sl
  | none => []
  | some o => [some (R.brw o)]
def ini (n : Nat) (io : Option OB) (ds : List D) : Sl := ioS io ++ ds.map (fun d => some (R.imm d)) ++ List.replicate (n - (ioN io + ds.length)) none
def ioOut (io : Option OB) (δ : Sl) : Option (Option OB) := match io with
  | none => some none
  | some _ => match δ[0]? with
    | some (some (R.brw o)) => some (some o)
    | _ => none
def outR (io : Option OB) : SR → FR
  | .rt r δ => (match ioOut io δ with
    | some io' => .ok r io'
    | none => .bad)
  | .nx δ => (match ioOut io δ with
    | some io' => .ok (.imm .non) io'
    | none => .bad)
  | .exc x δ => (match ioOut io δ with
    | some io' => .exc x io'
    | none => .bad)
  | _ => .bad
def mir (n np : Nat) (g : FS) : Fm := fun io ds => if ioN io + ds.length = np ∧ np ≤ n then outR io (g (ini n io ds)) else .bad
end
end
end TS

namespace TS
open PySem L2
noncomputable section
section
variable {M : Gm} {P : Program} {w : World} {mg : Str → Option Value} {base : Heap}
theorem ini_get_none {n : Nat} {ds : List D} {i : Nat} {r : R} (h : (ini n none ds)[i]? = some (some r)) : ∃ d, ds[i]? = some d ∧ r = .imm d := by
  unfold ini ioS at h
  simp only [List.nil_append] at h
  by_cases hl : i < ds.length
  · rw [List.getElem?_append_left (by simpa using hl), List.getElem?_map, List.getElem?_eq_getElem hl] at h
    simp only [Option.map_some, Option.some.injEq] at h
    exact ⟨ds[i], List.getElem?_eq_getElem hl, h.symm⟩
  · rw [List.getElem?_append_right (by simpa using hl)] at h
    rw [List.getElem?_replicate] at h
    split at h
    · cases h
    · cases h
theorem ini_get_some {n : Nat} {o : OB} {ds : List D} {i : Nat} {r : R} (h : (ini n (some o) ds)[i]? = some (some r)) : (i = 0 ∧ r = .brw o) ∨ ∃ j d, i = j + 1 ∧ ds[j]? = some d ∧ r = .imm d := by
  unfold ini ioS at h
  cases i with
  | zero =>
    simp only [List.cons_append, List.getElem?_cons_zero, Option.some.injEq] at h
    exact .inl ⟨rfl, h.symm⟩
  | succ j =>
    simp only [List.cons_append, List.nil_append, List.getElem?_cons_succ] at h
    right
    by_cases hl : j < ds.length
    · rw [List.getElem?_append_left (by simpa using hl), List.getElem?_map, List.getElem?_eq_getElem hl] at h
      simp only [Option.map_some, Option.some.injEq] at h
      exact ⟨j, ds[j], rfl, List.getElem?_eq_getElem hl, h.symm⟩
    · rw [List.getElem?_append_right (by simpa using hl), List.getElem?_replicate] at h
      split at h
      · cases h
      · cases h
theorem ini_len {n : Nat} {io : Option OB} {ds : List D} (h : ioN io + ds.length ≤ n) : (ini n io ds).length = n := by
  unfold ini
  cases io with
  | none => simp [ioS, ioN] at h ⊢; omega
  | some o => simp [ioS, ioN] at h ⊢; omega
theorem mir_ok {n np : Nat} {g : FS} {vs : List V} {H : Hp} {Q : VK} {E : XK} (h : spD M (mir n np g) vs H Q E) : vs.length = np := by
  obtain ⟨F, io, a, ws, ds, rfl, s, tb, rs, ia, h⟩ := h
  unfold mir at h
  by_cases hn : ioN io + ds.length = np ∧ np ≤ n
  · rw [List.length_append, reps_length rs]
    cases io <;> simp [ioV, ioN] at hn ⊢ <;> omega
  · rw [if_neg hn] at h
    exact h.elim
def cnOf (F H : Hp) (io : Option OB) (a : Addr) (ha : ∀ b, (io.map fun _ => a) = some b → ∃ u, H b = some u ∧ NT u) : Cn M := ⟨F, str0 H, io.map fun _ => a, fun b e z => by
  obtain ⟨u, h1, h2⟩ := ha b e
  exact str0_none z u h1 h2, fun _ _ h => (str0_nt h).2, none, fun _ z => nomatch z⟩
theorem body_ok {N : List Str} {np : Nat} {g : FS} {t : TS} {vs : List V} {H : Hp} {Q : VK} {E : XK} (hN : np ≤ N.length) (h : spD M (mir N.length np g) vs H Q E)
    (ht : ∀ (c : Cn M) F H σ δ D, Ok c F H σ δ → PostS c (fun cls d _ H => E cls d H) F (g δ) D → t D σ H) : t { nx := fun _ H' => Q .non H', rt := Q } (start N vs) H := by
  have hv := mir_ok h
  obtain ⟨F, io, a, ws, ds, rfl, s, tb, rs, ia, h⟩ := h
  have hio : ∀ b, (io.map fun _ => a) = some b → ∃ u, H b = some u ∧ NT u := fun b e => by
    cases io with
    | none => cases e
    | some o =>
      cases e
      exact obAt_nt ia.2
  unfold mir at h
  have hcond : ioN io + ds.length = np ∧ np ≤ N.length := by
    refine ⟨?_, hN⟩
    rw [List.length_append, reps_length rs] at hv
    cases io <;> simp [ioV, ioN] at hv ⊢ <;> omega
  rw [if_pos hcond] at h
  have hle : ioN io + ds.length ≤ N.length := by rw [hcond.1]; exact hcond.2
  have ok : Ok (cnOf (M := M) F H io a hio) F H (start N (ioV io a ++ ws)) (ini N.length io ds) := by
    refine ⟨s, Same.refl _, fun _ _ z => z, fun _ _ z _ => (str0_nt z).1, hio, tb, ?_, fun i r e => ?_, fun i j r r' v hij e1 e2 m1 m2 _ _ => ?_⟩
    · rw [ini_len hle]
      unfold L2.start
      rw [List.length_append, List.length_map, List.length_replicate]
      rw [hv]; omega
    · cases io with
      | none =>
        obtain ⟨d, hd, rfl⟩ := ini_get_none e
        obtain ⟨v, e1, e2⟩ := reps_get rs hd
        refine ⟨v, ?_, e2⟩
        unfold L2.start
        have hl : i < ws.length := (List.getElem?_eq_some_iff.mp e1).1
        simp only [ioV, List.nil_append]
        rw [List.getElem?_append_left (by simpa using hl), List.getElem?_map, e1]; rfl
      | some o =>
        rcases ini_get_some e with ⟨rfl, rfl⟩ | ⟨j, d, rfl, hd, rfl⟩
        · exact ⟨.ref a, rfl, a, rfl, ia.1, rfl, ia.2⟩
        · obtain ⟨v, e1, e2⟩ := reps_get rs hd
          refine ⟨v, ?_, e2⟩
          unfold L2.start
          have hl : j < ws.length := (List.getElem?_eq_some_iff.mp e1).1
          simp only [ioV, List.cons_append, List.nil_append, List.map_cons, List.getElem?_cons_succ]
          rw [List.getElem?_append_left (by simpa using hl), List.getElem?_map, e1]; rfl
    · cases io with
      | none => obtain ⟨d, _, rfl⟩ := ini_get_none e1; cases m1
      | some o =>
        rcases ini_get_some e1 with ⟨rfl, rfl⟩ | ⟨j1, d, rfl, hd, rfl⟩
        · rcases ini_get_some e2 with ⟨rfl, rfl⟩ | ⟨j1, d, rfl, hd, rfl⟩
          · exact hij rfl
          · cases m2
        · cases m1
  have stp : ∀ {F' H' : Hp} {σ' : St} {δ' : Sl}, Ok (cnOf (M := M) F H io a hio) F' H' σ' δ' → Stp M F H F' H' (io.map fun _ => a) := fun o => ⟨o.grow, fun b u e n z => o.nofz b (by show str0 H b ≠ none; rw [str0_of e n]; exact fun z => by cases z) z, fun b u e n i => o.kept b u (str0_of e n) i, o.same, o.tb⟩
  have iout : ∀ {F' H' : Hp} {σ' : St} {δ' : Sl} {io' : Option OB}, Ok (cnOf (M := M) F H io a hio) F' H' σ' δ' → ioOut io δ' = some io' → ioAt M F' H' io' a := fun {F' H' σ' δ' io'} o e => by
    unfold ioOut at e
    cases io with
    | none => cases e; trivial
    | some ob =>
      simp only at e
      split at e
      · rename_i o' q
        cases e
        obtain ⟨v, k1, b, rfl, k2, k3, k4⟩ := o.slot 0 _ q
        have : a = b := Option.some.inj k3
        subst this
        exact ⟨k2, k4⟩
      · cases e
  refine ht _ F H _ _ _ ok ?_
  cases q : g (ini N.length io ds) with
  | bad => rw [q] at h; exact h.elim
  | bk δ => rw [q] at h; exact h.elim
  | ct δ => rw [q] at h; exact h.elim
  | nx δ =>
    rw [q] at h
    unfold outR at h
    intro F' H' σ' g' ok'
    cases e : ioOut io δ with
    | none => simp only [e] at h
    | some io' =>
      simp only [e] at h
      exact h .non F' H' (stp ok') (rep_non' (M := M) (F := F')) (iout ok' e)
  | rt r δ =>
    rw [q] at h
    unfold outR at h
    intro v F' H' σ' g' ok' rr
    cases e : ioOut io δ with
    | none => simp only [e] at h
    | some io' =>
      simp only [e] at h
      refine h v F' H' (stp ok') ?_ (iout ok' e)
      cases r with
      | imm d => exact rr
      | own o =>
        obtain ⟨b, rfl, k1, k2, k3, _⟩ := rr
        exact ⟨b, rfl, k1, str0_none k2, k3⟩
      | brw o => exact rr
      | nst tp ps =>
        obtain ⟨b, vs', h1, h2, h3⟩ := rr
        exact ⟨b, vs', h1, h2, fun b hb => ⟨(h3 b hb).1, str0_none (h3 b hb).2.1⟩⟩
  | exc x δ =>
    rw [q] at h
    unfold outR at h
    intro cls d F' H' σ' g' ok' xa
    cases e : ioOut io δ with
    | none => simp only [e] at h
    | some io' =>
      simp only [e] at h
      exact h cls d F' H' (stp ok') xa (iout ok' e)
theorem funD_mir {x qual : Str} {params : Arguments} {body : List Stmt} {scope : Scope} {dvs : List V} {kws : List (Str × V)} {f : Addr} {fd : FuncData} {N ps : List Str} {k : Nat} {g : FS} (F : FunD M.K x qual params body scope dvs kws f fd) (S : FnScope N ps scope) (hN : ps.length ≤ N.length)
    (hb : ∀ (cdv : Value) (A : Around) (outer : List Env) (s : Shared) (H : Hp) (E : XK), Room k (A.deeper (PyProof.Rows.envOfC qual scope s.heap.objs.size f cdv)) →
      Takes (cxOf (L2.CX P w) P w M.K mg base N qual scope f cdv A outer s H E) (fun cls d _ H => E cls d H) →
      PassesOwn (model P w) (A.deeper (PyProof.Rows.envOfC qual scope s.heap.objs.size f cdv)) (PyProof.Rows.envOfC qual scope s.heap.objs.size f cdv) (cxOf (L2.CX P w) P w M.K mg base N qual scope f cdv A outer s H E).xe →
      DSs M (fun cls d _ H => E cls d H) (cxOf (L2.CX P w) P w M.K mg base N qual scope f cdv A outer s H E) body g) :
    FnOk P w M.K mg base (L2.CX P w) (k + 1) f fd ps (spD M (mir N.length ps.length g)) := by
  refine FnOk.of F S (fun vs H Q E h => mir_ok h) (fun cdv A outer s H vs Q E hr h => ?_)
  obtain ⟨t, p, ht⟩ := hb cdv A outer s H E hr (takes_of rfl rfl rfl rfl) (passes_of rfl)
  exact ⟨t, p, body_ok hN h ht⟩
theorem funD_mirC {x qual : Str} {params : Arguments} {body : List Stmt} {scope : Scope} {dvs : List V} {kws : List (Str × V)} {f : Addr} {fd : FuncData} {N ps : List Str} {k : Nat} {g : FS} (F : FunD M.K x qual params body scope dvs kws f fd) (S : FnScope N ps scope) (hN : ps.length ≤ N.length)
    (hb : ∀ (cdv : Value), CodeAt M.K f x qual params body scope cdv → ∀ (A : Around) (outer : List Env) (s : Shared) (H : Hp) (E : XK), Room k (A.deeper (PyProof.Rows.envOfC qual scope s.heap.objs.size f cdv)) →
      Takes (cxOf (L2.CX P w) P w M.K mg base N qual scope f cdv A outer s H E) (fun cls d _ H => E cls d H) →
      PassesOwn (model P w) (A.deeper (PyProof.Rows.envOfC qual scope s.heap.objs.size f cdv)) (PyProof.Rows.envOfC qual scope s.heap.objs.size f cdv) (cxOf (L2.CX P w) P w M.K mg base N qual scope f cdv A outer s H E).xe →
      DSs M (fun cls d _ H => E cls d H) (cxOf (L2.CX P w) P w M.K mg base N qual scope f cdv A outer s H E) body g) :
    FnOk P w M.K mg base (L2.CX P w) (k + 1) f fd ps (spD M (mir N.length ps.length g)) := by
  refine FnOk.ofC F S (fun vs H Q E h => mir_ok h) (fun cdv hcd A outer s H vs Q E hr h => ?_)
  obtain ⟨t, p, ht⟩ := hb cdv hcd A outer s H E hr (takes_of rfl rfl rfl rfl) (passes_of rfl)
  exact ⟨t, p, body_ok hN h ht⟩
end
end
end TS

namespace TS
open PySem L2
noncomputable section
structure DefE where
  at_ : PySem.W.Frag → Addr
  name : Str
  qual : Str
  params : Arguments
  body : List Stmt
  scope : Scope
  dfl : List He.Dv := []
  sup : Bool := false
def fnE (sup : Bool) (K : PySem.W.Frag) (a : Addr) : He.FnW := match K.lookup a with
  | some ⟨_, _, .func fd, _⟩ => some (fd.name, fd.qualname, fd.params, fd.body, fd.scope, fd.globals, if sup then [] else fd.closure, fd.builtins)
  | _ => none
def DefE.val (d : DefE) : He.FnW := some (d.name, d.qual, d.params, .stmts d.body, d.scope, mainGlobals, [], builtinsNs)
def DefE.dvs (K : PySem.W.Frag) (d : DefE) : List V := d.dfl.map (He.Dv.v K)
def DefE.ok (K : PySem.W.Frag) (d : DefE) : Bool := PySem.W.keepIn K (.ref (d.at_ K)) && (match K.lookup (d.at_ K) with
  | some ⟨_, _, .func fd, _⟩ => PySem.W.codeIn K fd.code d.qual && He.dflB K fd.defaults (d.dvs K)
  | _ => false)
theorem DefE.funD {K : PySem.W.Frag} {d : DefE} (e : fnE false K (d.at_ K) = d.val) (c : d.ok K = true) : ∃ fd, FunD K d.name d.qual d.params d.body d.scope (d.dvs K) [] (d.at_ K) fd := by
  obtain ⟨kp, c2⟩ := He.ba c
  unfold fnE at e
  cases q : K.lookup (d.at_ K) with
  | none =>
    rw [q] at c2
    cases c2
  | some o =>
    obtain ⟨oc, od, dt, osl⟩ := o
    rw [q] at c2 e
    cases dt with
    | func fd =>
      obtain ⟨n1, n2, n3, n4, n5, n6, n7, n8, n9, n10, n11, n12, n13, n14, n15⟩ := fd
      have e2 : (some (n1, n2, n3, n4, n5, n6, n7, n15) : He.FnW) = some (d.name, d.qual, d.params, .stmts d.body, d.scope, mainGlobals, [], builtinsNs) := e
      simp only [Option.some.injEq, Prod.mk.injEq] at e2
      obtain ⟨h1, h2, h3, h4, h5, h6, h7, h8⟩ := e2
      subst h1 h2 h3 h4 h5 h6 h7 h8
      have c3 : (PySem.W.codeIn K n13 d.qual && He.dflB K n8 (d.dvs K)) = true := c2
      obtain ⟨k1, k3⟩ := He.ba c3
      exact ⟨_, ⟨oc, od, n8, n9, n10, n11, n12, n13, n14, osl, rfl, q, k1, He.dflB_ok k3, .inl rfl⟩, kp⟩
    | _ => cases c2
abbrev gA (x : Str) : PySem.W.Frag → Addr := fun K => He.ga K x
abbrev mA (x m : Str) : PySem.W.Frag → Addr := fun K => He.ma K (He.ga K x) m
def dA (x m : Str) : PySem.W.Frag → Addr := fun K => He.ma K (He.ga K x) m
def uA (T : String) (x m : Str) : PySem.W.Frag → Addr := fun K => match PySem.W.recIn K (dA x m K) T with
  | some (.ref g :: _) => g
  | _ => 0
def refOf : Value → Addr
  | .ref c => c
  | _ => 0
def isRef : Value → Bool
  | .ref _ => true
  | _ => false
def cdA (f : PySem.W.Frag → Addr) (K : PySem.W.Frag) : Addr := match K.lookup (f K) with
  | some ⟨_, _, .func fd, _⟩ => refOf fd.code
  | _ => 0
def fnRef (f : PySem.W.Frag → Addr) (K : PySem.W.Frag) : Bool := match K.lookup (f K) with
  | some ⟨_, _, .func fd, _⟩ => isRef fd.code
  | _ => false
def clO (f : PySem.W.Frag → Addr) (K : PySem.W.Frag) : Option Addr := match K.lookup (f K) with
  | some ⟨_, _, .func fd, _⟩ => (match fd.closure with
    | [(x, cc)] => if x = ("__class__" : Str) then some cc else none
    | _ => none)
  | _ => none
def clA (f : PySem.W.Frag → Addr) (K : PySem.W.Frag) : Addr := (clO f K).getD 0
def cellOf (o : Option Obj) (d : Addr) : Bool := match o with
  | some ⟨_, _, .cell (some (.ref e)), _⟩ => decide (e = d)
  | _ => false
def fileOf (o : Option Obj) (z : Str) : Bool := match o with
  | some ⟨_, _, .fields vs, _⟩ => (match (vs[2]? : Option Value) with
    | some (Value.str y _) => decide (y = z)
    | _ => false)
  | _ => false
inductive Fx where
  | he (f : He.Fa)
  | prop (x f : Str)
  | cmet (x m : Str)
  | cread (x : Str)
  | cint (x f : Str) (i : Int)
  | kit (x y : Str) (b : Bool)
  | kitT (t : String) (y : Str) (b : Bool)
  | kitC (x : Str) (t : String) (b : Bool)
  | ity (x : Str)
  | neb (x : Str)
  | nfT (x : Str) (t : String)
  | nfC (x y : Str)
  | sfx (x : Str)
  | exc (x : Str) (B : String)
  | exm (x y : Str) (b : Bool)
  | smd
  | dgt
  | gtup (x : Str) (ns : List Int)
  | sup (x y : Str) (z : Str)
  | same (x y m : Str)
  | kwd (x : Str) (ks : List (Str × He.Dv))
def intOf : Value → Option Int
  | .int i _ => some i
  | _ => none
def bmOf : String → List Value := fun B => [.type B, .type "Exception", .type "BaseException", .type "object"]
def headRef : Option (List Value) → Addr → Bool
  | some (.ref g :: _), a => decide (g = a)
  | _, _ => false
def tyT : Value := .type "type"
def Fx.ok (K : PySem.W.Frag) : Fx → Bool
  | .he f => f.ok K
  | .prop x f => He.eqO (PySem.W.findIn K (.ref (He.ga K x)) f) (some (some (.ref (dA x f K)))) && (He.eqO (PySem.W.specialIn K (.ref (dA x f K)) "__get__") (some (some (.builtin "property.__get__"))) && (decide (PySem.W.takesIn K (.ref (dA x f K)) = some true) && headRef (PySem.W.recIn K (dA x f K) "property") (uA "property" x f K)))
  | .cmet x m => (match PySem.W.findCls K (.ref (He.ga K x)) tyT m with
    | some (.get (.builtin b) (.ref p) .none (.ref C)) => decide (b = "classmethod.__get__") && (decide (p = dA x m K) && decide (C = He.ga K x))
    | _ => false) && (headRef (PySem.W.recIn K (dA x m K) "classmethod") (uA "classmethod" x m K) && PySem.W.fnIn K (uA "classmethod" x m K))
  | .cread x => PySem.W.readsIn K (He.ga K x) tyT && He.eqO (PySem.W.specialIn K (.ref (He.ga K x)) "__getattribute__") (some (some (.builtin "type.__getattribute__")))
  | .cint x f i => (match PySem.W.findCls K (.ref (He.ga K x)) tyT f with
    | some (.val (.int j _)) => decide (j = i)
    | _ => false)
  | .kit x y b => decide (PySem.W.kitOne K (.ref (He.ga K x)) (.ref (He.ga K y)) = some b)
  | .kitT t y b => decide (PySem.W.kitOne K (.type t) (.ref (He.ga K y)) = some b)
  | .kitC x t b => decide (PySem.W.kitOne K (.ref (He.ga K x)) (.type t) = some b)
  | .ity x => He.eqO (PySem.W.findIn K (.ref (He.ga K x)) "__class__") (some (some (.builtin "object.__class__"))) && (He.eqO (PySem.W.specialIn K (.builtin "object.__class__") "__get__") (some (some (.builtin "getset_descriptor.__get__"))) && (decide (PySem.W.takesIn K (.builtin "object.__class__") = some true) && decide (PySem.W.mroIn K (He.ga K x) (.type "object") = some true)))
  | .neb x => He.eqO (PySem.W.findIn K (.ref (He.ga K x)) "__ne__") (some (some (.builtin "object.__ne__")))
  | .nfT x t => PySem.W.notFirst K (He.ga K x) (.type t)
  | .nfC x y => PySem.W.notFirst K (He.ga K x) (.ref (He.ga K y))
  | .sfx x => PySem.W.selfFirst K (He.ga K x)
  | .exc x B => PySem.W.excInitIn K (He.ga K x) (bmOf B) (B ++ ".__new__") && (PySem.W.excOver K (He.ga K x) (bmOf B) && (PySem.W.hasDictIn K (He.ga K x) && (He.eqO (PySem.W.findIn K (.ref (He.ga K x)) "__setattr__") (some (some (.builtin "object.__setattr__"))) && (decide (PySem.W.subIn K (.ref (He.ga K x)) (.type "BaseException") = some true) && (decide (PySem.W.typeIn K (.ref (He.ga K x)) = some (.type "type")) && (PySem.W.keepIn K (.ref (He.ga K x)) &&
    (He.eqO (PySem.W.findIn K (.ref (He.ga K x)) "__init__") (some (some (.ref (He.ma K (He.ga K x) "__init__")))) && (decide (PySem.W.typeIn K (.ref (He.ma K (He.ga K x) "__init__")) = some (.type "function")) && (He.eqO (PySem.W.findIn K (.ref (He.ga K x)) "__getattribute__") (some (some (.builtin "BaseException.__getattribute__"))) && (He.eqO (PySem.W.findIn K (.ref (He.ga K x)) "__getattr__") (some none) &&
    (He.eqO (PySem.W.findIn K (.ref (He.ga K x)) "__class__") (some (some (.builtin "object.__class__"))) && (He.eqO (PySem.W.specialIn K (.builtin "object.__class__") "__get__") (some (some (.builtin "getset_descriptor.__get__"))) && (decide (PySem.W.takesIn K (.builtin "object.__class__") = some true) && decide (PySem.W.mroIn K (He.ga K x) (.type "object") = some true))))))))))))))
  | .sup x y z => (clO (mA x "__init__") K).isSome && (fnRef (mA x "__init__") K && (cellOf (K.lookup (clA (mA x "__init__") K)) (He.ga K x) && (fileOf (K.lookup (cdA (mA x "__init__") K)) z && ((PySem.W.clsIn K (He.ga K x)).isSome && (decide (PySem.W.mroIn K (He.ga K x) (.ref (He.ga K x)) = some true) && (He.eqO (PySem.W.ks_superIn K (He.ga K x) (He.ga K x) "__init__") (some (some (.ref (He.ma K (He.ga K y) "__init__")))) && (decide (PySem.W.typeIn K (.ref (He.ma K (He.ga K y) "__init__")) = some (.type "function")) && (PySem.W.fnIn K (He.ma K (He.ga K y) "__init__") && He.eqO (PySem.W.nsIn K cStatics "thirdparty.any") (some none)))))))))
  | .same x y m => decide (He.ma K (He.ga K x) m = He.ma K (He.ga K y) m)
  | .kwd x ks => (match K.lookup (He.ga K x) with
    | some ⟨_, _, .func fd, _⟩ => He.kwdB K fd.kwdefaults (ks.map fun q => (q.1, q.2.v K))
    | _ => false)
  | .dgt => PySem.W.nsOkIn K cStatics && He.eqO (PySem.W.nsIn K cStatics "sys.int_max_str_digits") (some none)
  | .smd => (match K.lookup sysModules with
    | some ⟨.type c, _, _, _⟩ => decide (c = "dict")
    | _ => false)
  | .exm x y b => decide (PySem.W.exmOne K (.ref (He.ga K x)) (.ref (He.ga K y)) = some b)
  | .gtup x ns => (match K.lookup (He.ga K x) with
    | some ⟨.type c, none, .seq its _, _⟩ => decide (c = "tuple") && (decide (its.size ≤ 100) && decide (its.toList.map intOf = ns.map some))
    | _ => false)
section
variable {K : PySem.W.Frag}
theorem headRef_ok {o : Option (List Value)} {a : Addr} (h : headRef o a = true) : ∃ rest, o = some (.ref a :: rest) := by
  unfold headRef at h
  split at h
  · have e := of_decide_eq_true h
    subst e
    exact ⟨_, rfl⟩
  · cases h
theorem prop_ok {x f : Str} (c : (Fx.prop x f).ok K = true) : PropOf K (He.ga K x) f (dA x f K) (uA "property" x f K) := by
  obtain ⟨c1, c⟩ := He.ba c
  obtain ⟨c2, c⟩ := He.ba c
  obtain ⟨c3, c4⟩ := He.ba c
  exact ⟨He.eqO_ok c1, He.eqO_ok c2, of_decide_eq_true c3, headRef_ok c4⟩
theorem cread_ok {x : Str} (c : (Fx.cread x).ok K = true) : ClX.CRead K (He.ga K x) tyT := by
  obtain ⟨c1, c2⟩ := He.ba c
  exact ⟨c1, He.eqO_ok c2⟩
theorem cint_ok {x f : Str} {i : Int} (c : (Fx.cint x f i).ok K = true) : ∃ u, ClX.CVal K (He.ga K x) tyT f (.int i) u := by
  have c : (match PySem.W.findCls K (.ref (He.ga K x)) tyT f with
    | some (.val (.int j _)) => decide (j = i)
    | _ => false) = true := c
  split at c
  · rename_i j t e
    have ej := of_decide_eq_true c
    subst ej
    exact ⟨_, e, t, rfl⟩
  · cases c
theorem kit_ok {x y : Str} {b : Bool} (c : (Fx.kit x y b).ok K = true) : PySem.W.kitOne K (.ref (He.ga K x)) (.ref (He.ga K y)) = some b := of_decide_eq_true c
theorem kitC_ok {x : Str} {t : String} {b : Bool} (c : (Fx.kitC x t b).ok K = true) : PySem.W.kitOne K (.ref (He.ga K x)) (.type t) = some b := of_decide_eq_true c
theorem ity_ok {x : Str} (c : (Fx.ity x).ok K = true) : PySem.W.findIn K (.ref (He.ga K x)) "__class__" = some (some (.builtin "object.__class__")) ∧ PySem.W.specialIn K (.builtin "object.__class__") "__get__" = some (some (.builtin "getset_descriptor.__get__")) ∧ PySem.W.takesIn K (.builtin "object.__class__") = some true ∧ PySem.W.mroIn K (He.ga K x) (.type "object") = some true := by
  obtain ⟨c1, c⟩ := He.ba c
  obtain ⟨c2, c⟩ := He.ba c
  obtain ⟨c3, c4⟩ := He.ba c
  exact ⟨He.eqO_ok c1, He.eqO_ok c2, of_decide_eq_true c3, of_decide_eq_true c4⟩
end
def obsS (fa : List Fx) (fn : List DefE) (K : PySem.W.Frag) : He.AlD := ((fa.all fun f => f.ok K) && fn.all fun d => d.ok K, fn.map fun d => fnE d.sup K (d.at_ K))
def valS (fn : List DefE) : He.AlD := (true, fn.map DefE.val)
def SaysS (fa : List Fx) (fn : List DefE) (K : PySem.W.Frag) : Prop := obsS fa fn K = valS fn
section
variable {fa : List Fx} {fn : List DefE} {K : PySem.W.Frag}
theorem SaysS.fact (c : SaysS fa fn K) (i : Nat) {f : Fx} (h : fa[i]? = some f := by rfl) : f.ok K = true := by
  have c1 := (He.ba (show ((fa.all fun f => f.ok K) && fn.all fun d => d.ok K) = true from congrArg (fun z : He.AlD => z.1) c)).1
  exact List.all_eq_true.mp c1 f (List.mem_of_getElem? h)
theorem SaysS.def_ (c : SaysS fa fn K) (i : Nat) {d : DefE} (h : fn[i]? = some d := by rfl) (hs : d.sup = false := by rfl) : ∃ fd, FunD K d.name d.qual d.params d.body d.scope (d.dvs K) [] (d.at_ K) fd := by
  have c2 := (He.ba (show ((fa.all fun f => f.ok K) && fn.all fun d => d.ok K) = true from congrArg (fun z : He.AlD => z.1) c)).2
  have e : fn.map (fun d => fnE d.sup K (d.at_ K)) = fn.map DefE.val := congrArg (fun z : He.AlD => z.2) c
  have e2 : (fn.map fun d => fnE d.sup K (d.at_ K))[i]? = (fn.map DefE.val)[i]? := by rw [e]
  rw [List.getElem?_map, List.getElem?_map, h] at e2
  have e3 : fnE d.sup K (d.at_ K) = d.val := Option.some.inj e2
  rw [hs] at e3
  exact DefE.funD e3 (List.all_eq_true.mp c2 d (List.mem_of_getElem? h))
end
def tbA (f : PySem.W.Frag → Addr) (K : PySem.W.Frag) : Addr := match K.lookup (cdA f K) with
  | some ⟨_, _, .fields vs, _⟩ => refOf (vs.getD 11 .none)
  | _ => 0
def isTab : Option Obj → Bool
  | some ⟨.none, .none, .fields vs, sl⟩ => vs.isEmpty && sl.isEmpty
  | _ => false
theorem isTab_ok {o : Option Obj} (h : isTab o = true) : o = some (PySem.W.tabObj #[]) := by
  unfold isTab at h
  split at h
  · rename_i vs sl
    rw [Bool.and_eq_true] at h
    obtain ⟨h1, h2⟩ := h
    rw [Array.isEmpty_iff] at h1 h2
    subst h1 h2
    rfl
  · cases h
abbrev Mk2 := (PySem.W.Frag → Addr) × Str
def mkOk (g : Addr → Option Obj) (K : PySem.W.Frag) (x : Mk2) : Bool := fnRef x.1 K && (PySem.W.codeHdIn K (cdA x.1 K) (tbA x.1 K) && (isTab (g (tbA x.1 K)) && (K.lookup (tbA x.1 K)).isNone))
def uqOk (tn : List Mk2) (K : PySem.W.Frag) : Bool := tn.all fun x => tn.all fun y => !decide (tbA x.1 K = tbA y.1 K) || decide (x.2 = y.2)
def asT (g : Addr → Option Obj) (n : Nat) : List Addr := (List.range n).filter fun a => !isTab (g a)
def obsT (n : Nat) (fa : List Fx) (fn : List DefE) (tn : List Mk2) (g : Addr → Option Obj) : He.AlD :=
  let K := He.frG g (asT g n)
  ((fa.all fun f => f.ok K) && ((fn.all fun d => d.ok K) && (tn.all (mkOk g K) && uqOk tn K)), fn.map fun d => fnE d.sup K (d.at_ K))
structure SaysT (fa : List Fx) (fn : List DefE) (tn : List Mk2) (K : PySem.W.Frag) (h : Heap) : Prop where
  s : SaysS fa fn K
  m : ∀ x ∈ tn, fnRef x.1 K = true ∧ PySem.W.codeHdIn K (cdA x.1 K) (tbA x.1 K) = true ∧ h.get? (tbA x.1 K) = some (PySem.W.tabObj #[]) ∧ K.lookup (tbA x.1 K) = none
  u : ∀ x ∈ tn, ∀ y ∈ tn, tbA x.1 K = tbA y.1 K → x.2 = y.2
theorem saysT_of {n : Nat} {fa : List Fx} {fn : List DefE} {tn : List Mk2} {h : Heap} (e : obsT n fa fn tn h.get? = valS fn) : ∃ K : PySem.W.Frag, K.In h ∧ SaysT fa fn tn K h := by
  refine ⟨He.frG h.get? (asT h.get? n), He.frG_in, ?_⟩
  unfold obsT valS at e
  dsimp only at e
  generalize He.frG h.get? (asT h.get? n) = K at e
  obtain ⟨e1, e2⟩ := Prod.mk.inj e
  obtain ⟨k1, k⟩ := He.ba e1
  obtain ⟨k2, k⟩ := He.ba k
  obtain ⟨k3, k4⟩ := He.ba k
  refine ⟨?_, fun x hx => ?_, fun x hx y hy z => ?_⟩
  · unfold SaysS obsS valS
    rw [k1, k2, e2]; rfl
  · have q := List.all_eq_true.mp k3 x hx
    obtain ⟨q1, q⟩ := He.ba q
    obtain ⟨q2, q⟩ := He.ba q
    obtain ⟨q3, q4⟩ := He.ba q
    exact ⟨q1, q2, isTab_ok q3, by simpa using q4⟩
  · have q := List.all_eq_true.mp (List.all_eq_true.mp k4 x hx) y hy
    simp [z] at q
    exact q
def hookT (n : Nat) (fa : List Fx) (fn : List DefE) (tn : List Mk2) : PySem.W.Hook where
  α := He.AlD
  obs := fun s => obsT n fa fn tn s.heap.get?
  val := fun _ => valS fn
  says := fun _ h => ∃ K : PySem.W.Frag, K.In h ∧ SaysT fa fn tn K h
  of := fun _ _ e => saysT_of e
  keeps := fun _ _ _ ⟨K, hK, c⟩ k => ⟨K, PySem.W.Frag.In.keeps hK k, c.s, fun x hx => ⟨(c.m x hx).1, (c.m x hx).2.1, k _ _ (c.m x hx).2.2.1, (c.m x hx).2.2.2⟩, c.u⟩
theorem obsT_eq {n : Nat} {fa : List Fx} {fn : List DefE} {tn : List Mk2} {g : Addr → Option Obj} {s : Shared} (h : ∀ a, g a = s.heap.get? a) : obsT n fa fn tn g = (hookT n fa fn tn).obs s := by
  have e : g = s.heap.get? := funext h
  rw [e] <;> rfl
theorem code_of {f : PySem.W.Frag → Addr} {K : PySem.W.Frag} {name qual : Str} {params : Arguments} {body : List Stmt} {scope : Scope} {cdv : Value} (h : fnRef f K = true) (lk : CodeAt K (f K) name qual params body scope cdv) : cdv = .ref (cdA f K) := by
  obtain ⟨oc, od, dV, kV, doc, pm, ct, an, osl, lk⟩ := lk
  unfold fnRef at h
  unfold cdA
  rw [lk] at h ⊢
  change isRef cdv = true at h
  change cdv = .ref (refOf cdv)
  cases cdv <;> first | rfl | cases h
def csOf (tn : List Mk2) (K : PySem.W.Frag) : List (Addr × Addr) := tn.map fun x => (cdA x.1 K, tbA x.1 K)
def tsOf (tn : List Mk2) (K : PySem.W.Frag) : List (Addr × Str) := tn.map fun x => (tbA x.1 K, x.2)
theorem mk_of {tn : List Mk2} {K : PySem.W.Frag} {mg : Str → Option Value} {base : Heap} (t : ∀ p ∈ csOf tn K, LamX.TabB base mg p.1 p.2) (u : ∀ x ∈ tn, ∀ y ∈ tn, tbA x.1 K = tbA y.1 K → x.2 = y.2) {i : Nat} {x : Mk2} (h : tn[i]? = some x) :
    LamX.TabB base mg (cdA x.1 K) (tbA x.1 K) ∧ (tbA x.1 K, x.2) ∈ tsOf tn K ∧ ∀ p ∈ tsOf tn K, p.1 = tbA x.1 K → p.2 = x.2 := by
  have hx := List.mem_of_getElem? h
  refine ⟨t _ (List.mem_map.mpr ⟨x, hx, rfl⟩), List.mem_map.mpr ⟨x, hx, rfl⟩, fun p hp e => ?_⟩
  obtain ⟨y, hy, rfl⟩ := List.mem_map.mp hp
  exact u y hy x hx e
section
variable {fa : List Fx} {fn : List DefE} {tn : List Mk2} {K : PySem.W.Frag} {h : Heap}
theorem cs_tab (c : SaysT fa fn tn K h) : ∀ p ∈ csOf tn K, h.get? p.2 = some (PySem.W.tabObj #[]) := fun p hp => by
  obtain ⟨x, hx, rfl⟩ := List.mem_map.mp hp
  exact (c.m x hx).2.2.1
theorem cs_no (c : SaysT fa fn tn K h) : ∀ p ∈ csOf tn K, K.lookup p.2 = none := fun p hp => by
  obtain ⟨x, hx, rfl⟩ := List.mem_map.mp hp
  exact (c.m x hx).2.2.2
theorem cs_code (X : K.In h) (c : SaysT fa fn tn K h) : ∀ p ∈ csOf tn K, PySem.W.CodeHd h p.1 p.2 := fun p hp => by
  obtain ⟨x, hx, rfl⟩ := List.mem_map.mp hp
  exact PySem.W.codeHd_of_K X (c.m x hx).2.1
end
end
end TS

set_option maxHeartbeats 0
namespace K32
open PySem L2 TS
def top (i : Nat) : Stmt := PySem.Challenge.pw_threeswaps_k32_places_carried.main.body.getD i (.Pass ⟨0, 0, 0, 0⟩)
def dE (p : PySem.W.Frag → Addr) (nm q : Str) (s : Stmt) (dfl : List He.Dv) : DefE := ⟨p, nm, q, defArgs s, defBody s, defScope s, dfl, false⟩
def d__law_draw : DefE := dE (gA "_law_draw") "_law_draw" "_law_draw" (top 33) []
def d__law_pick : DefE := dE (gA "_law_pick") "_law_pick" "_law_pick" (top 34) []
def d__law_mixed : DefE := dE (gA "_law_mixed") "_law_mixed" "_law_mixed" (top 35) []
def d_least_table : DefE := dE (gA "least_table") "least_table" "least_table" (top 16) []
def d_InvalidTable___init__ : DefE := dE (mA "InvalidTable" "__init__") "__init__" "InvalidTable.__init__" (inClass (top 4) 0) []
def d_TooLong___init__ : DefE := dE (mA "TooLong" "__init__") "__init__" "TooLong.__init__" (inClass (top 6) 0) []
def d_is_integer : DefE := dE (gA "is_integer") "is_integer" "is_integer" (top 9) []
def d_checked_table : DefE := dE (gA "checked_table") "checked_table" "checked_table" (top 15) []
def d_sources_of : DefE := dE (gA "sources_of") "sources_of" "sources_of" (top 21) []
def d_Plan___init__ : DefE := dE (mA "Plan" "__init__") "__init__" "Plan.__init__" (inClass (top 22) 1) []
def d__law_great : DefE := dE (gA "_law_great") "_law_great" "_law_great" (top 36) []
def d__law_at : DefE := dE (gA "_law_at") "_law_at" "_law_at" (top 39) []
def d__law_found : DefE := dE (gA "_law_found") "_law_found" "_law_found" (top 42) []
def d_InvalidInteger___init__ : DefE := dE (mA "InvalidInteger" "__init__") "__init__" "InvalidInteger.__init__" (inClass (top 3) 0) []
def d_TooMany___init__ : DefE := dE (mA "TooMany" "__init__") "__init__" "TooMany.__init__" (inClass (top 7) 0) []
def d__law_told : DefE := dE (gA "_law_told") "_law_told" "_law_told" (top 43) []
def d_require_integer : DefE := dE (gA "require_integer") "require_integer" "require_integer" (top 10) [.non]
def d_Plan_offsets : DefE := dE (mA "Plan" "offsets") "offsets" "Plan.offsets" (inClass (top 22) 7) []
def d_crossing_ranges : DefE := dE (gA "crossing_ranges") "crossing_ranges" "crossing_ranges" (top 26) []
def d_count_with : DefE := dE (gA "count_with") "count_with" "count_with" (top 24) []
def d_Plan_period : DefE := dE (uA "property" "Plan" "period") "period" "Plan.period" (inClass (top 22) 5) []
def d_crossing_count : DefE := dE (gA "crossing_count") "crossing_count" "crossing_count" (top 27) []
def d_places_with : DefE := dE (gA "places_with") "places_with" "places_with" (top 25) []
def d_crossing_places : DefE := dE (gA "crossing_places") "crossing_places" "crossing_places" (top 28) []
def d_carried_up : DefE := dE (gA "carried_up") "carried_up" "carried_up" (top 29) [.int 100]
def d_carried_down : DefE := dE (gA "carried_down") "carried_down" "carried_down" (top 30) [.int 100]
def d__law_asked : DefE := dE (gA "_law_asked") "_law_asked" "_law_asked" (top 44) []
def d__law_far_right : DefE := dE (gA "_law_far_right") "_law_far_right" "_law_far_right" (top 48) []
def d__law_spans : DefE := dE (gA "_law_spans") "_law_spans" "_law_spans" (top 40) []
def d__law_count : DefE := dE (gA "_law_count") "_law_count" "_law_count" (top 41) []
def d__law_default : DefE := dE (gA "_law_default") "_law_default" "_law_default" (top 45) []
def d__law_list_right : DefE := dE (gA "_law_list_right") "_law_list_right" "_law_list_right" (top 46) []
def d__law_cut_right : DefE := dE (gA "_law_cut_right") "_law_cut_right" "_law_cut_right" (top 47) []
def d__law_long_right : DefE := dE (gA "_law_long_right") "_law_long_right" "_law_long_right" (top 49) []
def d__law_turns : DefE := dE (gA "_law_turns") "_law_turns" "_law_turns" (top 37) []
def d__law_table : DefE := dE (gA "_law_table") "_law_table" "_law_table" (top 38) []
def d__law_right : DefE := dE (gA "_law_right") "_law_right" "_law_right" (top 50) []
def d__law_pot : DefE := dE (gA "_law_pot") "_law_pot" "_law_pot" (top 32) []
def d_law : DefE := dE (gA "law") "law" "law" (top 51) []
def fn : List DefE := ([d__law_draw, d__law_pick, d__law_mixed, d_least_table, d_InvalidTable___init__, d_TooLong___init__, d_is_integer, d_checked_table, d_sources_of, d_Plan___init__, d__law_great, d__law_at, d__law_found, d_InvalidInteger___init__, d_TooMany___init__, d__law_told, d_require_integer, d_Plan_offsets, d_crossing_ranges, d_count_with, d_Plan_period, d_crossing_count, d_places_with, d_crossing_places, d_carried_up, d_carried_down, d__law_asked, d__law_far_right, d__law_spans, d__law_count, d__law_default, d__law_list_right, d__law_cut_right, d__law_long_right, d__law_turns, d__law_table, d__law_right, d__law_pot, d_law] : List DefE)
def fa : List Fx := ([.he (.free "len"), .he (.free "min"), .he (.free "max"), .he (.free "range"), .he (.free "divmod"), .he (.free "int"), .he (.glo "_law_draw"), .he (.glo "_law_pick"), .he (.free "list"), .he (.glo "_law_mixed"), .he (.free "enumerate"), .he (.cls "Plan"), .he (.noat "Plan" "own_offsets"), .he (.glo "least_table"), .he (.free "tuple"), .he (.free "isinstance"), .exc "InvalidTable" "ValueError", .he (.noat "InvalidTable" "problem"), .he (.noat "InvalidTable" "position"), .he (.noat "InvalidTable" "earlier"), .he (.glo "InvalidTable"), .cread "Move", .cint "Move" "MAX_PERIOD" 2520, .he (.glo "Move"), .exc "TooLong" "ArithmeticError", .he (.noat "TooLong" "multiple"), .he (.glo "TooLong"), .ity "Plan", .kitC "Plan" "bool" false, .he (.free "bool"), .kitC "Plan" "int" false, .he (.glo "is_integer"), .he (.glo "checked_table"), .cread "Plan", .cint "Plan" "SIGN" 1, .he (.glo "Plan"), .he (.noat "Plan" "own_sources"), .he (.glo "sources_of"), .he (.mkr "Plan"), .he (.glo "_law_great"), .he (.free "abs"), .he (.glo "_law_at"), .he (.glo "_law_found"), .exc "InvalidInteger" "ValueError", .he (.noat "InvalidInteger" "value"), .exc "TooMany" "ArithmeticError", .he (.noat "TooMany" "many"), .exm "InvalidInteger" "TooMany" false, .exm "InvalidTable" "TooMany" false, .exm "TooLong" "TooMany" false, .exm "TooMany" "TooMany" true, .kit "InvalidInteger" "TooLong" false, .kit "InvalidTable" "TooLong" false, .kit "TooLong" "TooLong" true, .kit "TooMany" "TooLong" false, .kitC "InvalidInteger" "ArithmeticError" false, .kitC "InvalidTable" "ArithmeticError" false, .kitC "TooLong" "ArithmeticError" true, .kitC "TooMany" "ArithmeticError" true, .he (.free "ArithmeticError"), .kit "InvalidInteger" "LimitError" false, .kit "InvalidTable" "LimitError" false, .kit "TooLong" "LimitError" true, .kit "TooMany" "LimitError" true, .he (.glo "LimitError"), .smd, .he (.free "repr"), .he (.glo "TooMany"), .he (.glo "InvalidInteger"), .he (.glo "require_integer"), .he (.meth "Plan" "offsets"), .he (.glo "crossing_ranges"), .he (.glo "count_with"), .prop "Plan" "period", .he (.free "sum"), .he (.glo "crossing_count"), .he (.glo "places_with"), .he (.free "sorted"), .he (.glo "crossing_places"), .he (.glo "carried_up"), .he (.glo "_law_told"), .he (.glo "carried_down"), .he (.glo "_law_asked"), .he (.glo "_law_far_right"), .he (.glo "_law_spans"), .he (.glo "_law_count"), .he (.glo "_law_default"), .he (.free "set"), .he (.glo "_law_list_right"), .he (.glo "_law_cut_right"), .he (.free "all"), .he (.glo "_law_long_right"), .he (.glo "_law_turns"), .he (.glo "_law_table"), .he (.glo "_law_right"), .he (.glo "_law_pot"), .he (.glo "law")] : List Fx)
def tn : List Mk2 := [((gA "_law_asked"), "_law_asked.<locals>.<lambda>"), ((gA "_law_default"), "_law_default.<locals>.<lambda>")]
abbrev R : PySem.W.OpenRow := PySem.W.OpenLaw.row PySem.Challenge.rw_threeswaps_k32_places_carried
abbrev hk : PySem.W.Hook := hookT 2000 fa fn tn
def ob (s : PySem.W.SharedT) : He.AlD := obsT 2000 fa fn tn (HandSHeadRun.getT s)
theorem ob_eq (s : PySem.W.SharedT) : ob s = hk.obs s.abs := obsT_eq (HandSHeadRun.getT_eq s)
def loose : List PySem.Str := (["_wall", "__name__", "ThreeswapsError", "InvalidInteger", "InvalidTable", "LimitError", "TooLong", "TooMany", "is_integer", "require_integer", "divisor_of_two", "common_multiple"] : List PySem.Str) ++ ((["Move", "checked_table", "least_table", "table_text", "joint_multiple", "moved", "joined_table", "sources_of", "Plan", "count_with", "places_with", "crossing_ranges"] : List PySem.Str) ++ ((["crossing_count", "crossing_places", "carried_up", "carried_down", "_law_pot", "_law_draw", "_law_pick", "_law_mixed", "_law_great", "_law_turns", "_law_table", "_law_at"] : List PySem.Str) ++ ((["_law_spans", "_law_count", "_law_found", "_law_told", "_law_asked", "_law_default", "_law_list_right", "_law_cut_right", "_law_far_right", "_law_long_right", "_law_right"] : List PySem.Str))))
end K32

set_option maxHeartbeats 0
namespace K32
open PySem L2 TS
def obK (s : PySem.W.SharedT) : PySem.W.Frag := He.frG (HandSHeadRun.getT s) (asT (HandSHeadRun.getT s) 2000)
theorem map3 {α β γ δ : Type} {x : Option α} {f : α → β} {g : α → γ} {c : α → δ} {a : β} {b : γ} {d : δ} (h1 : x.map f = some a) (h2 : x.map g = some b) (h3 : x.map c = some d) : x.map (fun s => (f s, g s, c s)) = some (a, b, d) := by
  cases x with
  | none => cases h1
  | some s =>
    have h1 := Option.some.inj h1
    have h2 := Option.some.inj h2
    have h3 := Option.some.inj h3
    show some (f s, g s, c s) = _
    rw [h1, h2, h3]
theorem run_a (w : World) : ∀ os : OsState, (HandSHeadRun.endF (HandSHeadRun.stepQ (HandSHeadRun.denQ HandSHeadRun.tabQ) R.prog w) 6000 R.prog w os).map (fun s => HandSHeadRun.looksF R.prog (PySem.W.boot_heap w.params) s.abs) = some (true) := by
  intro os
  kernel_rfl
theorem run_b (w : World) : ∀ os : OsState, (HandSHeadRun.endF (HandSHeadRun.stepQ (HandSHeadRun.denQ HandSHeadRun.tabQ) R.prog w) 6000 R.prog w os).map (fun s => HandSHeadRun.seenQ (PySem.W.view R.prog [51]) loose (importedModules R.prog.main.body) (fun s => PySem.W.xlAt (PySem.W.view R.prog [51]) [] s && PySem.W.recOk R.toRowW.records s) s.abs) = some (PySem.W.openGood (PySem.W.view R.prog [51]) loose) := by
  intro os
  kernel_rfl
theorem run_c1 (w : World) : ∀ os : OsState, (HandSHeadRun.endF (HandSHeadRun.stepQ (HandSHeadRun.denQ HandSHeadRun.tabQ) R.prog w) 6000 R.prog w os).map (fun s => (fa.take 80).all fun f => f.ok (obK s)) = some (true) := by
  intro os
  kernel_rfl
theorem run_c2 (w : World) : ∀ os : OsState, (HandSHeadRun.endF (HandSHeadRun.stepQ (HandSHeadRun.denQ HandSHeadRun.tabQ) R.prog w) 6000 R.prog w os).map (fun s => (fa.drop 80).all fun f => f.ok (obK s)) = some (true) := by
  intro os
  kernel_rfl
theorem run_c3 (w : World) : ∀ os : OsState, (HandSHeadRun.endF (HandSHeadRun.stepQ (HandSHeadRun.denQ HandSHeadRun.tabQ) R.prog w) 6000 R.prog w os).map (fun s => (fn.take 40).all fun d => d.ok (obK s)) = some (true) := by
  intro os
  kernel_rfl
theorem run_c5 (w : World) : ∀ os : OsState, (HandSHeadRun.endF (HandSHeadRun.stepQ (HandSHeadRun.denQ HandSHeadRun.tabQ) R.prog w) 6000 R.prog w os).map (fun s => ((fn.drop 40).all fun d => d.ok (obK s)) && (tn.all (mkOk (HandSHeadRun.getT s) (obK s)) && uqOk tn (obK s))) = some (true) := by
  intro os
  kernel_rfl
theorem run_c4 (w : World) : ∀ os : OsState, (HandSHeadRun.endF (HandSHeadRun.stepQ (HandSHeadRun.denQ HandSHeadRun.tabQ) R.prog w) 6000 R.prog w os).map (fun s => (ob s).2) = some (fn.map DefE.val) := by
  intro os
  kernel_rfl
theorem all_cut {α : Type} (xs : List α) (p : α → Bool) (n : Nat) (h1 : (xs.take n).all p = true) (h2 : (xs.drop n).all p = true) : xs.all p = true := by
  rw [← List.take_append_drop n xs, List.all_append, h1, h2]
  rfl
theorem and_cut {a b : Bool} (h : (a && b) = true) : a = true ∧ b = true := by
  cases a with
  | false => cases h
  | true => exact ⟨rfl, h⟩
theorem ob_cut {s : PySem.W.SharedT} {v : List He.FnW} (h1 : ((fa.take 80).all fun f => f.ok (obK s)) = true) (h2 : ((fa.drop 80).all fun f => f.ok (obK s)) = true) (h3 : ((fn.take 40).all fun d => d.ok (obK s)) = true) (h5 : (((fn.drop 40).all fun d => d.ok (obK s)) && (tn.all (mkOk (HandSHeadRun.getT s) (obK s)) && uqOk tn (obK s))) = true) (h4 : (ob s).2 = v) : ob s = (true, v) := by
  have e : (ob s).1 = ((fa.all fun f => f.ok (obK s)) && ((fn.all fun d => d.ok (obK s)) && (tn.all (mkOk (HandSHeadRun.getT s) (obK s)) && uqOk tn (obK s)))) := rfl
  obtain ⟨h6, h7⟩ := and_cut h5
  rw [all_cut fa (fun f => f.ok (obK s)) 80 h1 h2, all_cut fn (fun d => d.ok (obK s)) 40 h3 h6, h7] at e
  exact Prod.ext e h4
theorem run_c (w : World) (os : OsState) : (HandSHeadRun.endF (HandSHeadRun.stepQ (HandSHeadRun.denQ HandSHeadRun.tabQ) R.prog w) 6000 R.prog w os).map (fun s => ob s) = some (hk.val w) := by
  have h1 := run_c1 w os
  have h2 := run_c2 w os
  have h3 := run_c3 w os
  have h4 := run_c4 w os
  have h5 := run_c5 w os
  generalize HandSHeadRun.endF (HandSHeadRun.stepQ (HandSHeadRun.denQ HandSHeadRun.tabQ) R.prog w) 6000 R.prog w os = x at *
  cases x with
  | none => cases h1
  | some s => exact congrArg some (ob_cut (Option.some.inj h1) (Option.some.inj h2) (Option.some.inj h3) (Option.some.inj h5) (Option.some.inj h4))
theorem run (w : World) : HandSHeadRun.RunEq R (PySem.W.view R.prog [51]) hk ob 6000 loose w := by
  intro os
  exact map3 (run_a w os) (run_b w os) (run_c w os)
end K32

namespace PySem.W
section
variable {prog : Program} {w : World} {A : Around} {E : Value → Shared → Prop} {s : Shared} {K : Frag} {x C L f : Addr} {h₀ : Heap} {m : Str → Option Value} {ox : Obj} {od : Option Obj} {name : Str} {b tb : Value}
end
end PySem.W
namespace TS
open PySem L2
noncomputable section
abbrev Tg := String ⊕ Nat
def tagD : D → Option Tg
  | .non => some (.inl "NoneType")
  | .bl _ => some (.inl "bool")
  | .int _ => some (.inl "int")
  | .str _ => some (.inl "str")
  | .lst _ => some (.inl "list")
  | .tup _ => some (.inl "tuple")
  | .ktp _ => some (.inl "tuple")
  | .dK _ _ => some (.inl "dict")
  | .dT _ _ => none
  | .obj n _ => some (.inr n)
  | _ => none
def TgV (M : Gm) : Tg → Value → Prop
  | .inl s, v => v = .type s
  | .inr n, v => ∃ C, M.G n = some C ∧ v = .ref C
structure InsTy (K : PySem.W.Frag) (C : Addr) : Prop where
  cl : Cls K C
  ha : PySem.W.findIn K (.ref C) "__class__" = some (some (.builtin "object.__class__"))
  hn : PySem.W.specialIn K (.builtin "object.__class__") "__get__" = some (some (.builtin "getset_descriptor.__get__"))
  htk : PySem.W.takesIn K (.builtin "object.__class__") = some true
  hm : PySem.W.mroIn K C (.type "object") = some true
section
variable {M : Gm} {F H : Hp}
theorem tyx_of {d : D} {v : V} {t : Tg} (s : Same F H) (h : prep M F H d v) (e : tagD d = some t) (hI : ∀ n C, t = .inr n → M.G n = some C → InsTy M.K C) : ∃ tv, TgV M t tv ∧ TyX M.K H v tv := by
  cases d with
  | non => cases e; rw [prep_non h]; exact ⟨_, rfl, .base .non⟩
  | bl b => cases e; rw [prep_bl h]; exact ⟨_, rfl, .base (.bl b)⟩
  | int b => cases e; rw [prep_int h]; exact ⟨_, rfl, .base (.int b)⟩
  | str b => cases e; rw [prep_str h]; exact ⟨_, rfl, .base (.str b)⟩
  | lst ds =>
    cases e
    obtain ⟨a, vs, rfl, h2, _⟩ := prep_lst s h
    exact ⟨_, rfl, .base (.lst h2)⟩
  | tup ds =>
    cases e
    obtain ⟨a, vs, rfl, h2, _⟩ := prep_tup s h
    rcases h2 with (h2 | ⟨o, h2⟩) | ⟨o, its, n, h2, h3, _⟩
    · exact ⟨_, rfl, .base (.tup h2)⟩
    · exact ⟨_, rfl, .fTuple h2⟩
    · exact ⟨_, rfl, .kTuple h2 h3⟩
  | dK ks ds =>
    cases e
    obtain ⟨a, vs, rfl, h2, _⟩ := prep_dK s h
    rcases h2 with h2 | ⟨o, h2⟩
    · exact ⟨_, rfl, .base (.dK h2)⟩
    · exact ⟨_, rfl, .fDict h2⟩
  | dT ks ds => cases e
  | obj n ds =>
    cases e
    obtain ⟨a, C, dx, fs, rfl, h1, h2, _⟩ := prep_obj s h
    obtain ⟨k1, k2, k3, k4, k5⟩ := hI n C rfl h1
    exact ⟨_, ⟨C, h1, rfl⟩, .base (.ins h2 k1 k2 k3 k4 k5)⟩
  | scr ds => cases e
  | cls n => cases e
  | lam => cases e
  | ktp ns =>
    cases e
    obtain ⟨a, rfl, h2, _⟩ := prep_ktp (H := H) s h
    rcases h2 with (h2 | ⟨o, h2⟩) | ⟨o, its, n, h2, h3, _⟩
    · exact ⟨_, rfl, .base (.tup h2)⟩
    · exact ⟨_, rfl, .fTuple h2⟩
    · exact ⟨_, rfl, .kTuple h2 h3⟩
end
def IsT (M : Gm) (us : List Value) (tab : Tg → Option Bool) : Prop := ∀ t b tv, tab t = some b → TgV M t tv → PySem.W.kitAny M.K tv us = some b ∧ ∀ n C, t = .inr n → M.G n = some C → InsTy M.K C
def fIsi (tab : Tg → Option Bool) (fe : FD) : FD := fun δ => (fe δ).bind fun d δ => match tagD d with
  | some t => (match tab t with
    | some b => .ok (.bl b) δ
    | none => .bad)
  | none => .bad
section
variable {M : Gm} {c : Cn M} {W : WX} {X : Cx} {a c1 : Expr} {tab : Tg → Option Bool} {fe : FD} {p pos : Pos}
theorem kitAny_one {K : PySem.W.Frag} {t u : Value} {b : Bool} (h : PySem.W.kitAny K t [u] = some b) : PySem.W.kitOne K t u = some b := by
  unfold PySem.W.kitAny at h
  cases q : PySem.W.kitOne K t u with
  | none => rw [q] at h; cases h
  | some k =>
    rw [q] at h
    cases k with
    | true => exact h
    | false => exact h
theorem di_isi {v : V} {u : Value} (hg : Gl X "isinstance") (hm : X.mg "isinstance" = none) (ha : DP M W X a fe) (hc : PE X c1 (tC v)) (hv : ClsV v u) (T : IsT M [u] tab) (hK : X.K = M.K := by rfl)
    (hs : starEach [a, c1] X.env = (false, eval a X.env) :: starEach [c1] X.env := by rfl) (hs2 : starEach [c1] X.env = (false, eval c1 X.env) :: starEach [] X.env := by rfl)
    (mk : ∀ {t : TA}, PA X [a, c1] t → PE X (.Call (.Name "isinstance" p) [a, c1] [] pos) (tCB (rIsi X.K) t)) :
    DI M W X (.Call (.Name "isinstance" p) [a, c1] [] pos) (fIsi tab fe) := by
  obtain ⟨t, pp, h⟩ := ha
  refine ⟨_, mk (pa_cons pp (pa_cons hc pa_nil hs2) hs), fun c F H σ δ Q ok post => h c F H σ δ _ ok (Post.bind post fun d δ1 x F1 H1 _ s1 ok1 r post => ?_)⟩
  split at post
  · rename_i t e1
    split at post
    · rename_i b e2
      obtain ⟨tv, k1, k2⟩ := tyx_of ok1.same r e1 (fun n C h1 h2 => by
        have : ∃ tv, TgV M t tv := ⟨.ref C, by subst h1; exact ⟨C, h2, rfl⟩⟩
        obtain ⟨tv, h3⟩ := this
        exact (T t b tv e2 h3).2 n C h1 h2)
      have k3 := kitAny_one (T t b tv e2 k1).1
      exact ⟨x, v, tv, u, b, rfl, hv, by rw [hK]; exact k2, by rw [hK]; exact k3, post.ok ok1 (rep_bl' _)⟩
    · exact post.elim
  · exact post.elim
theorem di_isiT {es : List Expr} {kt : Nat} {tp : Pos} {vs : List V} {us : List Value} {ct : TA} (ha : DP M W X a fe) (hc : PA X es ct) (hct : ∀ σ H (Q : List V → Hp → Prop), Q vs H → ct σ H Q) (hv : Paired ClsV vs us) (hl : vs.length ≤ 100) (T : IsT M us tab) (hK : X.K = M.K := by rfl)
    (hs : starEach [a, .Tuple es kt tp] X.env = (false, eval a X.env) :: starEach [.Tuple es kt tp] X.env := by rfl) (hs2 : starEach [.Tuple es kt tp] X.env = (false, eval (.Tuple es kt tp) X.env) :: starEach [] X.env := by rfl)
    (mk : ∀ {t : TA}, PA X [a, .Tuple es kt tp] t → PE X (.Call (.Name "isinstance" p) [a, .Tuple es kt tp] [] pos) (tCB (rIsiT X.K) t)) :
    DI M W X (.Call (.Name "isinstance" p) [a, .Tuple es kt tp] [] pos) (fIsi tab fe) := by
  obtain ⟨t, pp, h⟩ := ha
  refine ⟨_, mk (pa_cons pp (pa_cons (pe_tup hc) pa_nil hs2) hs), fun c F H σ δ Q ok post => h c F H σ δ _ ok (Post.bind post fun d δ1 x F1 H1 _ s1 ok1 r post => ?_)⟩
  split at post
  · rename_i t e1
    split at post
    · rename_i b e2
      have hI : ∀ n C, t = .inr n → M.G n = some C → InsTy M.K C := fun n C h1 h2 => (T t b (.ref C) e2 (by subst h1; exact ⟨C, h2, rfl⟩)).2 n C h1 h2
      refine hct _ _ _ ⟨Nat.le_trans hl (by rw [sizeLine_eq]; decide), fun q hq => ?_⟩
      have ok2 : Ok c F1 (upd H1 q (.tup vs)) σ δ1 := ok1.alloc hq
      have r2 : prep M F1 (upd H1 q (.tup vs)) d x := by
        rcases r with r | ⟨o, a', e3, e4, e5⟩
        · exact .inl r
        · obtain ⟨u', hu'⟩ := obAt_some e5
          exact .inr ⟨o, a', e3, e4, obAt_mono (Same.refl _) (upd_ne (ne_of_none hu' hq)) e5⟩
      obtain ⟨tv, k1, k2⟩ := tyx_of ok2.same r2 e1 hI
      exact ⟨x, q, vs, tv, us, b, rfl, upd_same, hv, by rw [hK]; exact k2, by rw [hK]; exact (T t b tv e2 k1).1, post.ok ok2 (rep_bl' _)⟩
    · exact post.elim
  · exact post.elim
end
end
end TS

namespace TS
open PySem L2
noncomputable section
def OpDI (M : Gm) (r : R2) (g : D → D → Option R) : Prop := ∀ (c : Cn M) (F H : Hp) (σ : St) (δ : Sl) (x y : V) (dx dy : D) (z : R) (Q : VK), Ok c F H σ δ → rep M F dx x → rep M F dy y → g dx dy = some z →
  (∀ v F' H', Same F F' → Ok c F' H' σ δ → repR c F' H' σ δ z v → Q v H') → r x y H Q
section
variable {M : Gm} {c : Cn M} {W : WX} {X : Cx} {a b : Expr} {pos : Pos} {fa fb : FD} {r r' : R2} {g g' : D → D → Option R}
theorem OpD.I (h : OpD M r g) : OpDI M r g := fun c F H σ δ x y dx dy z Q ok px py e q => h c F H σ δ x y dx dy z Q ok (.inl px) (.inl py) e q
theorem OpDI.or (h : OpDI M r g) (h' : OpDI M r' g') : OpDI M (fun x y H Q => r x y H Q ∨ r' x y H Q) (gOr g g') := by
  intro c F H σ δ x y dx dy z Q ok px py e q
  unfold gOr at e
  cases e1 : g dx dy with
  | some w => rw [e1] at e; cases e; exact .inl (h c F H σ δ x y dx dy _ Q ok px py e1 q)
  | none => rw [e1] at e; exact .inr (h' c F H σ δ x y dx dy z Q ok px py e q)
end
section
variable {X : Cx} {pins : List (Addr × Obj)} {σ : St} {H : Hp} {s : Shared}
theorem takes0 : Takes X W0 := fun u s' ⟨a, B, sI, pins, σ, H, cls, d, e, I, nb, up, sky, na, os, ag, w⟩ => w.elim
end
def fUnI (g : Int → Int) (fe : FD) : FD := fun δ => (fe δ).bind fun d δ => match d with
  | .int i => .ok (.int (g i)) δ
  | _ => .bad
section
variable {M : Gm} {c : Cn M} {W : WX} {X : Cx} {a b : Expr} {pos : Pos} {fa fb : FD}
theorem di_neg (ha : DI M W X a fa) : DI M W X (.UnaryOp .USub a pos) (fUnI (fun i => -i) fa) := by
  obtain ⟨t, p, h⟩ := ha
  refine ⟨_, pe_un un_neg p, fun c F H σ δ Q ok post => h c F H σ δ _ ok (Post.bind post fun d δ1 v F1 H1 _ s1 ok1 r post => ?_)⟩
  split at post
  · rename_i i _
    have ev : v = .int i := by unfold ρD rep at r; exact r
    exact ⟨i, ev, post.ok ok1 (rep_int' _)⟩
  · exact post.elim
theorem de_dnew : DE M W X (.Dict [] [] pos) (fun δ => .ok (.own (.dK [] [])) δ) :=
  ⟨_, pe_dnewK, fun c F H σ δ Q ok post => fun p hp => post.ok (ok.alloc hp) (ok.made hp ⟨[], upd_same, rfl, reps_nil⟩)⟩
end
def setF (vs : List D) (j : Nat) (d : D) : Option (List D) := if vs.length = j then some (vs ++ [d]) else if j < vs.length then some (vs.set j d) else none
theorem putF_new {f : Str} {v : V} : ∀ {fs : List (Str × V)}, f ∉ fs.map (·.1) → putF f v fs = fs ++ [(f, v)]
  | [], _ => rfl
  | (g, x) :: r, h => by
    simp only [List.map_cons, List.mem_cons, not_or] at h
    simp only [putF, if_neg (Ne.symm h.1), List.cons_append]
    rw [putF_new h.2]
theorem putF_at {f : Str} {v : V} : ∀ {fs : List (Str × V)} {j : Nat}, (fs.map (·.1))[j]? = some f → f ∉ (fs.map (·.1)).take j → putF f v fs = fs.set j (f, v)
  | [], j, h, _ => by simp at h
  | (g, x) :: r, 0, h, _ => by
    simp at h
    subst h
    simp [putF]
  | (g, x) :: r, j + 1, h, hn => by
    simp at h
    simp only [List.map_cons, List.take_succ_cons, List.mem_cons, not_or] at hn
    simp only [putF, if_neg (Ne.symm hn.1), List.set_cons_succ]
    rw [putF_at (by simpa using h) hn.2]
theorem setF_ok {M : Gm} {F : Hp} {n j : Nat} {f : Str} {vs vs' : List D} {d : D} {v : V} {fs : List (Str × V)} (hj : (M.nm n)[j]? = some f) (hn : f ∉ (M.nm n).take j) (h3 : fs.map (·.1) = (M.nm n).take vs.length) (h4 : reps M F vs (fs.map (·.2))) (rv : rep M F d v) (e : setF vs j d = some vs') :
    (putF f v fs).map (·.1) = (M.nm n).take vs'.length ∧ reps M F vs' ((putF f v fs).map (·.2)) := by
  have hjl : j < (M.nm n).length := (List.getElem?_eq_some_iff.mp hj).1
  unfold setF at e
  split at e
  · rename_i hl
    cases e
    rw [putF_new (by rw [h3, hl]; exact hn)]
    constructor
    · rw [List.map_append, h3, List.length_append, hl]
      show (M.nm n).take j ++ [f] = (M.nm n).take (j + 1)
      rw [List.take_succ, hj]; rfl
    · rw [List.map_append]; exact reps_append h4 (reps_cons rv reps_nil)
  · split at e
    · rename_i hl hlt
      cases e
      rw [putF_at (j := j) (by rw [h3, List.getElem?_take_of_lt hlt]; exact hj) (by rw [h3, List.take_take, Nat.min_eq_left (Nat.le_of_lt hlt)]; exact hn)]
      constructor
      · rw [List.map_set, List.length_set, h3]
        apply List.ext_getElem?
        intro i
        by_cases hi : j = i
        · subst hi
          rw [List.getElem?_set_self (by rw [List.length_take]; omega), List.getElem?_take_of_lt hlt, hj]
        · rw [List.getElem?_set_ne hi]
      · rw [List.map_set]; exact reps_set j h4 rv
    · cases e
def sFldS (i : Nat) (ix : Nat → Option Nat) (fe : FD) : FS := fun δ => (fe δ).bindS fun d δ1 => match δ1[i]? with
  | some (some (.own (.o n vs))) => (match ix n with
    | some j => (match setF vs j d with
      | some vs' => .nx (δ1.set i (some (.own (.o n vs'))))
      | none => .bad)
    | none => .bad)
  | some (some (.brw (.o n vs))) => (match ix n with
    | some j => (match setF vs j d with
      | some vs' => .nx (δ1.set i (some (.brw (.o n vs'))))
      | none => .bad)
    | none => .bad)
  | _ => .bad
section
variable {M : Gm} {c : Cn M} {W : WX} {X : Cx}
theorem ds_fld {o e : Expr} {i : Nat} {f : Str} {ix : Nat → Option Nat} {fe : FD} {pos pos' : Pos} (T : FldT M f ix) (hlen : ∀ n, (M.nm n).length < 1000) (ho : PE X o (tVar i)) (he : DI M W X e fe) (hK : X.K = M.K := by rfl) (hs : swapsWith e (some (.Attribute o f pos')) pos.line X.env = pure false := by rfl) :
    DS M W X (.Assign [.Attribute o f pos'] e pos) (sFldS i ix fe) := by
  obtain ⟨t, p, h⟩ := he
  refine ⟨_, ps_fld ho p hs, fun c F H σ δ E ok post => h c F H σ δ _ ok (PostS.ofE post fun d δ1 v F1 H1 _ s1 ok1 r post => ?_)⟩
  have key : ∀ (mkr : OB → R) (n : Nat) (vs : List D), (mkr = R.own ∨ mkr = R.brw) → δ1[i]? = some (some (mkr (.o n vs))) →
      PostS c W F1 (match ix n with | some j => (match setF vs j d with | some vs' => .nx (δ1.set i (some (mkr (.o n vs')))) | none => .bad) | none => .bad) E → ∃ v0, σ[i]? = some (some v0) ∧ ∃ a C dx fs, v0 = V.ref a ∧ H1 a = some (.ins C dx fs) ∧ Cls X.K C ∧ NoAttr X.K C f ∧ fs.length < 1000 ∧ E.nx σ (upd H1 a (.ins C dx (putF f v fs))) := by
    intro mkr n vs hk q post
    split at post
    · rename_i j hj
      split at post
      · rename_i vs' hv
        have hm : (mkr (.o n vs)).mu = true := by rcases hk with rfl | rfl <;> rfl
        obtain ⟨a, ob, ea, hf, hob, hkk⟩ := ok1.mus q hm
        have eob : ob = .o n vs := by
          rcases hk with rfl | rfl
          · rcases hkk with ⟨z, _⟩ | ⟨z, _⟩ <;> cases z; rfl
          · rcases hkk with ⟨z, _⟩ | ⟨z, _⟩ <;> cases z; rfl
        subst eob
        obtain ⟨C, dx, fs, h1, h2, h3, h4⟩ := hob
        obtain ⟨k1, k2, k3⟩ := T n j hj
        obtain ⟨p1, p2⟩ := setF_ok k2 k3 h3 h4 r hv
        refine ⟨.ref a, ea, a, C, dx, fs, rfl, h2, by rw [hK]; exact (k1 C h1).1, by rw [hK]; exact (k1 C h1).2, ?_, ?_⟩
        · have := congrArg List.length h3
          rw [List.length_map, List.length_take] at this
          have := hlen n
          omega
        · have rel : (mkr (.o n vs) = .own (.o n vs) ∧ mkr (.o n vs') = .own (.o n vs')) ∨ (mkr (.o n vs) = .brw (.o n vs) ∧ mkr (.o n vs') = .brw (.o n vs')) := by
            rcases hk with rfl | rfl
            · exact .inl ⟨rfl, rfl⟩
            · exact .inr ⟨rfl, rfl⟩
          exact post F1 _ σ (Same.refl _) (ok1.write q rel ea ⟨C, dx, _, h1, upd_same, p1, p2⟩)
      · exact post.elim
    · exact post.elim
  split at post
  · rename_i n vs q
    exact key R.own n vs (.inl rfl) q post
  · rename_i n vs q
    exact key R.brw n vs (.inr rfl) q post
  · exact post.elim
end
section
variable {M : Gm} {P : Program} {w : World} {mg : Str → Option Value} {base : Heap} {k : Nat} {f : Addr} {fm : Fm}
def fmDfl (fm : Fm) (dd : List D) : Fm := fun io ds => fm io (ds ++ dd)
theorem fnR_dfl {dd : List D} {dvs : List V} (hr : ∀ F, reps M F dd dvs) (F : FnR P w M.K mg base (L2.CX P w) k f (fun vs H Q E => spD M fm (vs ++ dvs) H Q E)) : FnR P w M.K mg base (L2.CX P w) k f (spD M (fmDfl fm dd)) :=
  F.imp fun vs H Q E h => by
    obtain ⟨F0, io, a, ws, ds, rfl, s, tb, rs, ia, h⟩ := h
    exact ⟨F0, io, a, ws ++ dvs, ds ++ dd, by rw [List.append_assoc], s, tb, reps_append rs (hr F0), ia, h⟩
theorem fnR_raw {fd : FuncData} {ps : List Str} (F : FnOk P w M.K mg base (L2.CX P w) k f fd ps (spD M fm)) (hb : Binds M.K fd ps []) : FnR P w M.K mg base (L2.CX P w) k f (spD M fm) :=
  (F.raw (dvs := []) hb .nil).imp fun vs H Q E h => by rw [List.append_nil]; exact h
end
end
end TS

namespace TS
open PySem L2
noncomputable section
def FnK (P : Program) (w : World) (K : PySem.W.Frag) (mg : Str → Option Value) (base : Heap) (CX : CXT) (k : Nat) (f : Addr) (n : Nat) (ks : List Str) (sp : Sp) : Prop :=
  ∀ (A : Around) (outer : List Env) (s : Shared) (H : Hp) (us ws : List Value) (vs zs : List V) (Q : VK) (E : XK), Room k A → Env0 P w K mg base A outer s H → vs.length = n → zs.length = ks.length → Vals vs us → Vals zs ws → sp (vs ++ zs) H Q E →
    codeAny (model P w) A (.call (.ref f) ⟨us, ks.zip ws⟩) (CR CX outer P w H s Q E) s
section
variable {P : Program} {w : World} {K : PySem.W.Frag} {mg : Str → Option Value} {base : Heap} {CX : CXT} {j k n : Nat} {ks : List Str} {f : Addr} {sp sp' : Sp}
theorem FnK.mono (F : FnK P w K mg base CX j f n ks sp) (h : j ≤ k) : FnK P w K mg base CX k f n ks sp := fun A outer s H us ws vs zs Q E hr => F A outer s H us ws vs zs Q E (hr.mono h)
theorem FnOk.kw {fd : FuncData} {ps : List Str} {g : List Value → List Value → List Value} {gV : List V → List V → List V} (F : FnOk P w K mg base CX k f fd ps sp) (hb : KBn K fd ps n ks g gV)
    (hi : ∀ vs zs H Q E, vs.length = n → zs.length = ks.length → sp' (vs ++ zs) H Q E → sp (gV vs zs) H Q E) : FnK P w K mg base CX k f n ks sp' := by
  intro A outer s H us ws vs zs Q E hr e0 l1 l2 r rz h
  exact F.run A outer s H ⟨us, ks.zip ws⟩ (g us ws) (gV vs zs) Q E hr e0 (hb.to s us ws (e0.mod.kin.keeps fun b o e => (e0.bs b o e).1) (r.length.symm.trans l1) (rz.length.symm.trans l2)) (hb.rel r rz) (hi vs zs H Q E l1 l2 h)
end
section
variable {M : Gm} {P : Program} {w : World} {mg : Str → Option Value} {base : Heap} {k n : Nat} {ks : List Str} {f : Addr} {fm : Fm}
end
section
variable {X : Cx} {W : WX} {pins : List (Addr × Obj)} {σ : St} {H : Hp} {s : Shared}
theorem run_fnK {k n : Nat} {ks : List Str} {f : Addr} {sp : Sp} {Q : VK} {us ws : List Value} {vs zs : List V} (F : FnK X.prog X.w X.K X.mg X.base (CXX X) k f n ks sp) (hr : Room k X.A) (tk : Takes X W) (I : Inv X pins σ H s) (l1 : vs.length = n) (l2 : zs.length = ks.length) (r : Vals vs us) (rz : Vals zs ws) (h : sp (vs ++ zs) H Q (WE W σ)) :
    wpAny (model X.prog X.w) X.A (call (.ref f) us (ks.zip ws)) (EP X pins σ Q) X.xe s := by
  refine wpAny_call (codeAny_mono (F X.A X.stack s H us ws vs zs Q (WE W σ) hr I.env0 l1 l2 r rz h) fun r s' hq => ?_)
  cases r with
  | error e => exact passAt tk σ pins H s e s' I hq
  | ok fl =>
    cases fl with
    | ret u => exact I.after hq
    | next => exact False.elim hq
    | brk => exact False.elim hq
    | cont => exact False.elim hq
end
def tOwnK (W : WX) (n m : Nat) (sp : Sp) (t tk : TA) : TE := fun σ H Q => t σ H fun vs H1 => tk σ H1 fun zs H2 => vs.length = n ∧ zs.length = m ∧ sp (vs ++ zs) H2 Q (WE W σ)
section
variable {X : Cx} {W : WX} {k n : Nat} {ks : List Str} {kws : List Keyword} {f C : Addr} {sp : Sp} {x m : Str} {e o : Expr} {es : List Expr} {ta : TE} {t tkw : TA} {p pos apos : Pos}
theorem pe_ownK0 (F : FnK X.prog X.w X.K X.mg X.base (CXX X) k f 0 ks sp) (hr : Room k X.A) (tk : Takes X W) (hg : Gl X x) (hm : X.mg x = some (.ref f)) (hk : PySem.W.keepIn X.K (.ref f) = true) (hkw : PK X kws tkw)
    (hall : (backToKw pos (keywordEach kws X.env)).all (·.1.isSome) = true := by rfl) (hks : (backToKw pos (keywordEach kws X.env)).filterMap (·.1) = ks := by rfl)
    (hdb : (x == ("__debug__" : Str)) = false := by decide) (hpl : ((backTo pos (starEach [] X.env)).any (·.1) || (backToKw pos (keywordEach kws X.env)).any (·.1.isNone)) = false := by rfl) :
    PE X (.Call (.Name x p) [] kws pos) (tOwnK W 0 ks.length sp tNil tkw) := by
  refine ⟨fun pins s σ H Q I h => ?_⟩
  refine wpAny_Call_Name_kw (ld_glob I hg hm ?_ hdb)
  refine PySem.W.callWith_KW0 (h₀ := X.base) I.ok.mod.kin hk hall ?_ hpl
  refine thn (hkw.run pos pins s σ H _ I h) fun ws s2 ⟨zs, H2, I2, rz, l1, l2, q2⟩ => ⟨I2.kIn, ?_⟩
  rw [hks]
  exact run_fnK (us := []) (vs := []) F hr tk I2 l1 l2 .nil rz q2
end
def DKw (M : Gm) (W : WX) (X : Cx) (kws : List Keyword) (f : FA) : Prop := ∃ t, PK X kws t ∧ ∀ (c : Cn M) F H σ δ Q, Ok c F H σ δ → Post c W F σ (ρA c) (f δ) Q → t σ H Q
def fOwnK (f : Fm) (n m : Nat) (fa fk : FA) : FE := fun δ => (fa δ).bind fun ds δ1 => (fk δ1).bind fun es δ2 => if ds.length = n ∧ es.length = m then outE (f none (ds ++ es)) δ2 else .bad
section
variable {M : Gm} {c : Cn M} {W : WX} {X : Cx} {e : Expr} {es : List Expr} {kws : List Keyword} {fa fk : FA} {f : Fm} {n m : Nat}
theorem dk_nil : DKw M W X [] aNil := ⟨_, pk_nil, fun c F H σ δ Q ok post => post.ok ok reps_nil⟩
theorem dk_cons {fe : FD} {nm : Option Str} {kpos : Pos} (he : DI M W X e fe) (hr : DKw M W X kws fk) : DKw M W X (⟨nm, e, kpos⟩ :: kws) (aCons fe fk) := by
  obtain ⟨t, p, h⟩ := he
  obtain ⟨t', p', h'⟩ := hr
  refine ⟨_, pk_cons p p', fun c F H σ δ Q ok post => h c F H σ δ _ ok (Post.bind post fun d δ1 v F1 H1 _ s1 ok1 r post => h' c F1 H1 σ δ1 _ ok1 (Post.bind post fun ds δ2 vs F2 H2 _ s2 ok2 rs post => ?_))⟩
  exact post.ok ok2 (reps_cons (rep_mono s2 _ _ r) rs)
end
end
end TS

namespace TS
open PySem L2
noncomputable section
def gAdd : D → D → Option R := gOr (gI (fun _ _ => true) fun i j => i + j) (gOr gCat gCatS)
def gMul : D → D → Option R := gOr (gI CMulB fun i j => i * j) gRep
abbrev gSub : D → D → Option R := gI (fun _ _ => true) fun i j => i - j
def gFdiv : D → D → Option R := gOr (gI CDivB fun i j => i / j) (gI CDivNB fun i j => i.fdiv j)
abbrev gMod : D → D → Option R := gI CModB fun i j => i % j
abbrev gPow : D → D → Option R := gI CPowB fun i j => i ^ j.toNat
abbrev gLt : D → D → Option R := gB fun i j => decide (i < j)
abbrev gLe : D → D → Option R := gB fun i j => decide (i ≤ j)
abbrev gGt : D → D → Option R := gB fun i j => decide (j < i)
abbrev gGe : D → D → Option R := gB fun i j => decide (j ≤ i)
def rAddAll : R2 := fun x y H Q => rI0 (fun i j => .int (i + j)) x y H Q ∨ (rCat x y H Q ∨ (∃ i j, x = .str i ∧ y = .str j ∧ i.length + j.length ≤ sizeLine ∧ Q (.str (i ++ j)) H))
def rMulAll : R2 := fun x y H Q => rI CMulW (fun i j => .int (i * j)) x y H Q ∨ rRep x y H Q
section
variable {M : Gm} {c : Cn M} {W : WX} {X : Cx} {a b : Expr} {pos p : Pos} {fa fb : FD} {i : Nat}
theorem op_addAll : OpR X (binaryOp .Add) rAddAll := OpR.or op_add (OpR.or op_cat op_add_str)
theorem op_mulAll : OpR X (binaryOp .Mult) rMulAll := OpR.or op_mulW op_rep
theorem od_addAll : OpD M rAddAll gAdd := OpD.or od_I0 (OpD.or od_cat od_catS)
theorem od_mulAll : OpD M rMulAll gMul := OpD.or od_mul od_rep
theorem x_add (ha : DI M W X a fa) (hb : DP M W X b fb) : DE M W X (.BinOp a .Add b pos) (fBin gAdd fa fb) := d_op (fun h h' => pe_op op_addAll h h') od_addAll ha hb
theorem x_mul (ha : DI M W X a fa) (hb : DP M W X b fb) : DE M W X (.BinOp a .Mult b pos) (fBin gMul fa fb) := d_op (fun h h' => pe_op op_mulAll h h') od_mulAll ha hb
theorem x_sub (ha : DI M W X a fa) (hb : DP M W X b fb) : DE M W X (.BinOp a .Sub b pos) (fBin gSub fa fb) := d_op (fun h h' => pe_op op_sub h h') od_sub ha hb
theorem op_fdivNeg : OpR X (binaryOp .FloorDiv) (rI (fun _ j => j < 0 ∧ j.natAbs.log2 < 9000) fun i j => .int (i.fdiv j)) := opI fun i j _ _ _ _ _ hc q => PyProof.Rows.floordiv_int (by have := hc.1; omega) q (.inl (PyProof.noPylong_of_log2 hc.2))
theorem x_fdiv (ha : DI M W X a fa) (hb : DP M W X b fb) : DE M W X (.BinOp a .FloorDiv b pos) (fBin gFdiv fa fb) := d_op (fun h h' => pe_op (OpR.or op_fdivW op_fdivNeg) h h') (OpD.or od_fdiv od_fdivN) ha hb
theorem x_mod (ha : DI M W X a fa) (hb : DP M W X b fb) : DE M W X (.BinOp a .Mod b pos) (fBin gMod fa fb) := d_op (fun h h' => pe_op op_mod h h') od_mod ha hb
theorem x_pow (ha : DI M W X a fa) (hb : DP M W X b fb) : DE M W X (.BinOp a .Pow b pos) (fBin gPow fa fb) := d_op (fun h h' => pe_op op_pow h h') od_pow ha hb
theorem x_lt (ha : DI M W X a fa) (hb : DP M W X b fb) : DE M W X (.Compare a [.Lt] [b] pos) (fBin gLt fa fb) := d_op (fun h h' => pe_cmpR op_lt h h' (nomark _)) od_B ha hb
theorem x_ge (ha : DI M W X a fa) (hb : DP M W X b fb) : DE M W X (.Compare a [.GtE] [b] pos) (fBin gGe fa fb) := d_op (fun h h' => pe_cmpR op_ge h h' (nomark _)) od_B ha hb
theorem t_lt (ha : DI M W X a fa) (hb : DP M W X b fb) : DT M W X (.Compare a [.Lt] [b] pos) (fTst (fBin gLt fa fb)) := dt_op (fun h h' => pt_cmpR op_lt h h' (nomark _)) od_B ha hb
theorem t_gt (ha : DI M W X a fa) (hb : DP M W X b fb) : DT M W X (.Compare a [.Gt] [b] pos) (fTst (fBin gGt fa fb)) := dt_op (fun h h' => pt_cmpR op_gt h h' (nomark _)) od_B ha hb
theorem t_ge (ha : DI M W X a fa) (hb : DP M W X b fb) : DT M W X (.Compare a [.GtE] [b] pos) (fTst (fBin gGe fa fb)) := dt_op (fun h h' => pt_cmpR op_ge h h' (nomark _)) od_B ha hb
theorem t_notN (ha : DI M W X a fa) (hb : DP M W X b fb) : DT M W X (.Compare a [.IsNot] [b] pos) (fTst (fBin gNotN fa fb)) := dt_op (fun h h' => pt_cmpR op_notN h h' (nomark _)) od_notN ha hb
theorem op_eqM {k : Nat} (hK : X.K = M.K) (hr : Room k X.A) : OpR X (compareOp .Eq) (rEqD M.K) := by rw [← hK]; exact op_eqD hr.units
theorem op_neM {k : Nat} (hK : X.K = M.K) (hr : Room k X.A) : OpR X (compareOp .NotEq) (rNeD M.K) := by rw [← hK]; exact op_neD hr.units
theorem x_eq {k : Nat} (hr : Room k X.A) (ha : DI M W X a fa) (hb : DP M W X b fb) (hK : X.K = M.K := by rfl) : DE M W X (.Compare a [.Eq] [b] pos) (fBin gEq fa fb) := d_op (fun h h' => pe_cmpR (op_eqM hK hr) h h' (nomark _)) od_eq ha hb
theorem t_eq {k : Nat} (hr : Room k X.A) (ha : DI M W X a fa) (hb : DP M W X b fb) (hK : X.K = M.K := by rfl) : DT M W X (.Compare a [.Eq] [b] pos) (fTst (fBin gEq fa fb)) := dt_op (fun h h' => pt_cmpR (op_eqM hK hr) h h' (nomark _)) od_eq ha hb
theorem t_ne {k : Nat} (hr : Room k X.A) (ha : DI M W X a fa) (hb : DP M W X b fb) (hK : X.K = M.K := by rfl) : DT M W X (.Compare a [.NotEq] [b] pos) (fTst (fBin gNe fa fb)) := dt_op (fun h h' => pt_cmpR (op_neM hK hr) h h' (nomark _)) od_ne ha hb
theorem t_neV {k : Nat} (hr : Room k X.A) (ha : PE X a (tVar i)) (hb : DP M W X b fb) (hK : X.K = M.K := by rfl) : DT M W X (.Compare a [.NotEq] [b] pos) (fTst (fBinV gNe i fb)) := dt_opV (fun h h' => pt_cmpR (op_neM hK hr) h h' (nomark _)) od_ne ha hb
theorem t_in {k : Nat} (hr : Room k X.A) (ha : DI M W X a fa) (hb : DP M W X b fb) (hm : behindInMarks .In b = false := by rfl) (hK : X.K = M.K := by rfl) : DT M W X (.Compare a [.In] [b] pos) (fTst (fBin gIn fa fb)) := dt_op (fun h h' => pt_cmpR (op_inAll hK (hu_of hr)) h h' hm) (od_in false rfl) ha hb
theorem x_ix {k : Nat} (hr : Room k X.A) (ha : DI M W X a fa) (hb : DP M W X b fb) (hs : PlainIx b := by intro _ _; rfl) (hK : X.K = M.K := by rfl) : DE M W X (.Subscript a b pos) (fBin gIx fa fb) := d_op (fun h h' => pe_ix (ix_all hK (hu_of hr)) h h' hs) od_ix ha hb
theorem x_ixV {k : Nat} (hr : Room k X.A) (ha : PE X a (tVar i)) (hb : DP M W X b fb) (hs : PlainIx b := by intro _ _; rfl) (hK : X.K = M.K := by rfl) : DE M W X (.Subscript a b pos) (fBinV gIx i fb) := d_opV (fun h h' => pe_ix (ix_all hK (hu_of hr)) h h' hs) od_ix ha hb
end
section
variable {M : Gm} {c : Cn M} {W : WX} {X : Cx} {e a : Expr} {es : List Expr} {pos p : Pos} {fa : FA} {x : Str}
theorem e_b {id : String} {r : RC} {g : List D → Option R} (hc : CallR X (.builtin id) r) (hd : CallD M r g) (hv : bootBuiltins x = some (.builtin id)) (hg : Gl X x) (hm : X.mg x = none) (ha : DB M W X (e :: es) fa) (hn : x ≠ "__name__" := by decide) (hdb : (x == ("__debug__" : Str)) = false := by decide)
    (he : starEach (e :: es) X.env = (false, eval e X.env) :: starEach es X.env := by rfl) (hpl : (backTo pos (starEach es X.env)).any (·.1) = false := by rfl) : DE M W X (.Call (.Name x p) (e :: es) [] pos) (fCal g fa) := d_call (fun h => pe_callB hc hg hm hv h hn hdb he hpl) hd ha
theorem e_t {T : String} {r : RC} {g : List D → Option R} (hc : CallR X (.type T) r) (hd : CallD M r g) (hv : bootBuiltins x = some (.type T)) (hg : Gl X x) (hm : X.mg x = none) (ha : DB M W X (e :: es) fa) (hn : x ≠ "__name__" := by decide) (hdb : (x == ("__debug__" : Str)) = false := by decide)
    (he : starEach (e :: es) X.env = (false, eval e X.env) :: starEach es X.env := by rfl) (hpl : (backTo pos (starEach es X.env)).any (·.1) = false := by rfl) : DE M W X (.Call (.Name x p) (e :: es) [] pos) (fCal g fa) := d_call (fun h => pe_callTy hc hg hm hv h hn hdb he hpl) hd ha
theorem bt_len : bootBuiltins "len" = some (.builtin "len") := by decide +kernel
theorem bt_abs : bootBuiltins "abs" = some (.builtin "abs") := by decide +kernel
theorem bt_max : bootBuiltins "max" = some (.builtin "max") := by decide +kernel
theorem bt_min : bootBuiltins "min" = some (.builtin "min") := by decide +kernel
theorem bt_sum : bootBuiltins "sum" = some (.builtin "sum") := by decide +kernel
theorem bt_all : bootBuiltins "all" = some (.builtin "all") := by decide +kernel
theorem bt_divmod : bootBuiltins "divmod" = some (.builtin "divmod") := by decide +kernel
theorem bt_repr : bootBuiltins "repr" = some (.builtin "repr") := by decide +kernel
theorem bt_isinstance : bootBuiltins "isinstance" = some (.builtin "isinstance") := by decide +kernel
theorem bt_int : bootBuiltins "int" = some (.type "int") := by decide +kernel
theorem bt_list : bootBuiltins "list" = some (.type "list") := by decide +kernel
theorem bt_tuple : bootBuiltins "tuple" = some (.type "tuple") := by decide +kernel
theorem bt_bool : bootBuiltins "bool" = some (.type "bool") := by decide +kernel
variable (hg : Gl X x) (hm : X.mg x = none)
def gMax : List D → Option R := gcOr gMax2 gMaxL
def gMin : List D → Option R := gcOr gMin2 gMinL
theorem b_len (hg : Gl X "len") (hm : X.mg "len" = none) (ha : DB M W X [e] fa) (hK : X.K = M.K := by rfl) (he : starEach (e :: []) X.env = (false, eval e X.env) :: starEach [] X.env := by rfl) (hpl : (backTo pos (starEach [] X.env)).any (·.1) = false := by rfl) : DE M W X (.Call (.Name "len" p) [e] [] pos) (fCal gLen fa) := e_b (call_lenAll hK) cd_len bt_len hg hm ha (by decide) (by decide) he hpl
theorem b_abs (hg : Gl X "abs") (hm : X.mg "abs" = none) (ha : DB M W X [e] fa) (he : starEach (e :: []) X.env = (false, eval e X.env) :: starEach [] X.env := by rfl) (hpl : (backTo pos (starEach [] X.env)).any (·.1) = false := by rfl) : DE M W X (.Call (.Name "abs" p) [e] [] pos) (fCal gAbs fa) := e_b call_abs cd_abs bt_abs hg hm ha (by decide) (by decide) he hpl
theorem b_max (hc : X.calm = true) (hg : Gl X "max") (hm : X.mg "max" = none) (ha : DB M W X (e :: es) fa) (he : starEach (e :: es) X.env = (false, eval e X.env) :: starEach es X.env := by rfl) (hpl : (backTo pos (starEach es X.env)).any (·.1) = false := by rfl) : DE M W X (.Call (.Name "max" p) (e :: es) [] pos) (fCal gMax fa) := e_b (CallR.or (call_max2 hc) (cr_max hc)) (CallD.or cd_max2 cd_maxL) bt_max hg hm ha (by decide) (by decide) he hpl
theorem b_min (hc : X.calm = true) (hg : Gl X "min") (hm : X.mg "min" = none) (ha : DB M W X (e :: es) fa) (he : starEach (e :: es) X.env = (false, eval e X.env) :: starEach es X.env := by rfl) (hpl : (backTo pos (starEach es X.env)).any (·.1) = false := by rfl) : DE M W X (.Call (.Name "min" p) (e :: es) [] pos) (fCal gMin fa) := e_b (CallR.or (call_min2 hc) (cr_min hc)) (CallD.or cd_min2 cd_minL) bt_min hg hm ha (by decide) (by decide) he hpl
theorem b_sum (hc : X.calm = true) (hg : Gl X "sum") (hm : X.mg "sum" = none) (ha : DB M W X [e] fa) (he : starEach (e :: []) X.env = (false, eval e X.env) :: starEach [] X.env := by rfl) (hpl : (backTo pos (starEach [] X.env)).any (·.1) = false := by rfl) : DE M W X (.Call (.Name "sum" p) [e] [] pos) (fCal gSum fa) := e_b (cr_sum hc) cd_sum bt_sum hg hm ha (by decide) (by decide) he hpl
theorem b_all (hc : X.calm = true) (hg : Gl X "all") (hm : X.mg "all" = none) (ha : DB M W X [e] fa) (he : starEach (e :: []) X.env = (false, eval e X.env) :: starEach [] X.env := by rfl) (hpl : (backTo pos (starEach [] X.env)).any (·.1) = false := by rfl) : DE M W X (.Call (.Name "all" p) [e] [] pos) (fCal gAll fa) := e_b (cr_all hc) cd_all bt_all hg hm ha (by decide) (by decide) he hpl
theorem b_divmod (hg : Gl X "divmod") (hm : X.mg "divmod" = none) (ha : DB M W X (e :: es) fa) (he : starEach (e :: es) X.env = (false, eval e X.env) :: starEach es X.env := by rfl) (hpl : (backTo pos (starEach es X.env)).any (·.1) = false := by rfl) : DE M W X (.Call (.Name "divmod" p) (e :: es) [] pos) (fCal gDivmod fa) := e_b call_divmodP cd_divmod bt_divmod hg hm ha (by decide) (by decide) he hpl
theorem b_int (hg : Gl X "int") (hm : X.mg "int" = none) (ha : DB M W X [e] fa) (he : starEach (e :: []) X.env = (false, eval e X.env) :: starEach [] X.env := by rfl) (hpl : (backTo pos (starEach [] X.env)).any (·.1) = false := by rfl) : DE M W X (.Call (.Name "int" p) [e] [] pos) (fCal gInt fa) := e_t call_int1 cd_int bt_int hg hm ha (by decide) (by decide) he hpl
theorem b_list (hg : Gl X "list") (hm : X.mg "list" = none) (ha : DB M W X [e] fa) (hK : X.K = M.K := by rfl) (he : starEach (e :: []) X.env = (false, eval e X.env) :: starEach [] X.env := by rfl) (hpl : (backTo pos (starEach [] X.env)).any (·.1) = false := by rfl) : DE M W X (.Call (.Name "list" p) [e] [] pos) (fCal gList fa) := e_t call_list_of (cd_list hK) bt_list hg hm ha (by decide) (by decide) he hpl
theorem k_ty {T : String} (hv : bootBuiltins x = some (.type T)) (hg : Gl X x) (hm : X.mg x = none) (hn : x ≠ "__name__" := by decide) (hdb : (x == ("__debug__" : Str)) = false := by decide) : PE X (.Name x pos) (tC (.ty T)) :=
  ⟨fun pins s σ H Q I h => ld_blt I hg hm hv ⟨.ty T, H, I, rfl, h⟩ hn hdb⟩
theorem b_isi {fe : FD} {c1 : Expr} {v : V} {u : Value} {tab : Tg → Option Bool} (hg : Gl X "isinstance") (hm : X.mg "isinstance" = none) (ha : DP M W X a fe) (hc : PE X c1 (tC v)) (hv : ClsV v u) (T : IsT M [u] tab) (hK : X.K = M.K := by rfl)
    (hs : starEach [a, c1] X.env = (false, eval a X.env) :: starEach [c1] X.env := by rfl) (hs2 : starEach [c1] X.env = (false, eval c1 X.env) :: starEach [] X.env := by rfl) (hpl : (backTo pos (starEach [c1] X.env)).any (·.1) = false := by rfl) :
    DI M W X (.Call (.Name "isinstance" p) [a, c1] [] pos) (fIsi tab fe) := di_isi hg hm ha hc hv T hK hs hs2 (fun h => pe_callB call_isi hg hm bt_isinstance h (by decide) (by decide) hs hpl)
theorem b_isiT {fe : FD} {es : List Expr} {kt : Nat} {tp : Pos} {vs : List V} {us : List Value} {ct : TA} {tab : Tg → Option Bool} (hg : Gl X "isinstance") (hm : X.mg "isinstance" = none) (ha : DP M W X a fe) (hc : PA X es ct) (hct : ∀ σ H (Q : List V → Hp → Prop), Q vs H → ct σ H Q) (hv : Paired ClsV vs us) (hl : vs.length ≤ 100) (T : IsT M us tab) (hK : X.K = M.K := by rfl)
    (hs : starEach [a, .Tuple es kt tp] X.env = (false, eval a X.env) :: starEach [.Tuple es kt tp] X.env := by rfl) (hs2 : starEach [.Tuple es kt tp] X.env = (false, eval (.Tuple es kt tp) X.env) :: starEach [] X.env := by rfl) (hpl : (backTo pos (starEach [.Tuple es kt tp] X.env)).any (·.1) = false := by rfl) :
    DI M W X (.Call (.Name "isinstance" p) [a, .Tuple es kt tp] [] pos) (fIsi tab fe) := di_isiT ha hc hct hv hl T hK hs hs2 (fun h => pe_callB call_isiT hg hm bt_isinstance h (by decide) (by decide) hs hpl)
end
section
variable {M : Gm} {c : Cn M} {W : WX} {X : Cx} {o e : Expr} {es : List Expr} {apos cpos : Pos} {fa : FA} {i : Nat}
theorem m_append (ho : PE X o (tVar i)) (ha : DA M W X (e :: es) fa) (hb : attributeBase o "append" X.env (eval o X.env) = eval o X.env := by rfl) (hfew : ((backTo cpos (starEach (e :: es) X.env)).all (fun x => !x.1) && (backToKw cpos (keywordEach [] X.env)).all (fun x => x.1.isSome) && decide ((e :: es).length + ([] : List Keyword).length + (if ([] : List Keyword).isEmpty then 0 else 1) < 30)) = true := by rfl) (hl : (apos.endLine == cpos.line) = true := by rfl)
    (he : starEach (e :: es) X.env = (false, eval e X.env) :: starEach es X.env := by rfl) (hpl : (backTo cpos (starEach es X.env)).any (·.1) = false := by rfl) : DI M W X (.Call (.Attribute o "append" apos) (e :: es) [] cpos) (fMut i mAppend fa) :=
  d_mut (o := o) (fun h => pe_bm PySem.F.plainAttrs_list PySem.F.slot_list_append PySem.F.type_list_append mt_append ho h hb hfew hl he hpl) md_append ha
theorem m_pop (ho : PE X o (tVar i)) (ha : DA M W X (e :: es) fa) (hb : attributeBase o "pop" X.env (eval o X.env) = eval o X.env := by rfl) (hfew : ((backTo cpos (starEach (e :: es) X.env)).all (fun x => !x.1) && (backToKw cpos (keywordEach [] X.env)).all (fun x => x.1.isSome) && decide ((e :: es).length + ([] : List Keyword).length + (if ([] : List Keyword).isEmpty then 0 else 1) < 30)) = true := by rfl) (hl : (apos.endLine == cpos.line) = true := by rfl)
    (he : starEach (e :: es) X.env = (false, eval e X.env) :: starEach es X.env := by rfl) (hpl : (backTo cpos (starEach es X.env)).any (·.1) = false := by rfl) : DI M W X (.Call (.Attribute o "pop" apos) (e :: es) [] cpos) (fMut i mPop fa) :=
  d_mut (o := o) (fun h => pe_bm PySem.F.plainAttrs_list PySem.F.slot_list_pop PySem.F.type_list_pop mt_popAll ho h hb hfew hl he hpl) md_pop ha
end
section
variable {M : Gm} {c : Cn M} {W : WX} {X : Cx} {e o : Expr} {f : Fm}
theorem d_meth0 {m : Str} {tab : Nat → Option Fm} {fo : FD} (mk : ∀ {ta : TE}, PE X o ta → PE X e (tMethD W (okM M tab) m ta tNil)) (hn : ∀ n f, tab n = some f → m ∉ M.nm n) (ho : DI M W X o fo) : DE M W X e (fMeth tab fo aNil) := by
  obtain ⟨ta, pa, ho⟩ := ho
  refine ⟨_, mk pa, fun c F H σ δ Q ok post => ho c F H σ δ _ ok (Post.bind post fun d δ1 v F1 H1 _ s1 ok1 r post => ?_)⟩
  split at post
  · rename_i n vs _
    split at post
    · rename_i f hf
      have r0 := r
      unfold ρD rep at r
      obtain ⟨a, C, dx, fs, rfl, h1, h2, h3, h4⟩ := r
      refine ⟨a, C, dx, fs, spD M f, rfl, ok1.same _ _ h2, ⟨n, f, hf, h1, rfl⟩, lookup_none (fun z => hn n f hf (List.mem_of_mem_take (h3 ▸ z))), ?_⟩
      exact own_of ok1 (reps_cons r0 reps_nil) post
    · exact post.elim
  · exact post.elim
def fOwnK0 (f : Fm) (m : Nat) (fk : FA) : FE := fun δ => (fk δ).bind fun es δ2 => if es.length = m then outE (f none es) δ2 else .bad
theorem d_ownK0 {kws : List Keyword} {fk : FA} {m : Nat} (mk : ∀ {tk : TA}, PK X kws tk → PE X e (tOwnK W 0 m (spD M f) tNil tk)) (hk : DKw M W X kws fk) : DE M W X e (fOwnK0 f m fk) := by
  obtain ⟨t', p', h'⟩ := hk
  refine ⟨_, mk p', fun c F H σ δ Q ok post => h' c F H σ δ _ ok (Post.bind post fun es δ2 zs F2 H2 _ s2 ok2 rz post => ?_)⟩
  split at post
  · rename_i hl
    exact ⟨rfl, by rw [reps_length rz]; exact hl, own_of ok2 rz post⟩
  · exact post.elim
theorem reps_ints {M : Gm} {F : Hp} : ∀ (ns : List Int), reps M F (ns.map D.int) (ns.map V.int)
  | [] => reps_nil
  | n :: ns => reps_cons (rep_int' _) (reps_ints ns)
end
def kitAnyB (t : String) : List String → Option Bool
  | [] => some false
  | u :: us => match kitB t u with
    | some true => some true
    | some false => kitAnyB t us
    | none => none
def tabTy (us : List String) (own : Nat → Option Bool) : Tg → Option Bool
  | .inl t => kitAnyB t us
  | .inr n => own n
theorem kitAnyB_ok {K : PySem.W.Frag} {t : String} : ∀ {us : List String} {b : Bool}, kitAnyB t us = some b → PySem.W.kitAny K (.type t) (us.map Value.type) = some b
  | [], b, h => h
  | u :: us, b, h => by
    unfold kitAnyB at h
    split at h
    · rename_i e
      cases h
      exact kitAny_cons (kit_ty e) (fun z => by cases z) (fun _ => rfl)
    · rename_i e
      exact kitAny_cons (kit_ty e) (fun _ => kitAnyB_ok h) (fun z => by cases z)
    · cases h
theorem isT_ty {M : Gm} {us : List String} {own : Nat → Option Bool} (h : ∀ n b C, own n = some b → M.G n = some C → PySem.W.kitAny M.K (.ref C) (us.map Value.type) = some b ∧ InsTy M.K C) : IsT M (us.map Value.type) (tabTy us own) := by
  intro t b tv h1 h2
  cases t with
  | inl t =>
    obtain rfl : tv = .type t := h2
    exact ⟨kitAnyB_ok h1, fun n C z => by cases z⟩
  | inr n =>
    obtain ⟨C, e1, rfl⟩ := h2
    refine ⟨(h n b C h1 e1).1, fun n' C' z e2 => ?_⟩
    cases z
    rw [e1] at e2; cases e2
    exact (h n b C h1 e1).2
theorem isT_own0 {M : Gm} {us : List String} : IsT M (us.map Value.type) (tabTy us fun _ => none) := isT_ty fun n b C z => by cases z
def muL (i : Nat) : Sl → Nat := fun δ => match δ[i]? with
  | some (some (.own (.l ds))) => ds.length + 2
  | _ => 0
end
end TS

namespace TS
open PySem L2
noncomputable section
def shOk (p : PyData) : Bool := gd (p.showable = true ∧ p.hasDict = false ∧ p.depth ≤ 32 ∧ p.shown.length ≤ sizeLine)
def gRepr : List D → Option R
  | [d] => (match toP d with
    | some p => if shOk p then some (.imm (.str p.shown)) else none
    | none => none)
  | _ => none
def rRepr (K : PySem.W.Frag) : RC := fun xs H Q => ∃ x p, xs = [x] ∧ Dp K H x p ∧ shOk p = true ∧ Q (.str p.shown) H
section
variable {X : Cx} {M : Gm} {W : WX} {e : Expr} {es : List Expr} {fa : FA} {p pos : Pos}
theorem call_reprD {k : Nat} (hr : Room k X.A) : CallR X (.builtin "repr") (rRepr X.K) := by
  rintro pins s σ H xs us Q I r ⟨x, p, rfl, hd, hs, q⟩
  obtain ⟨u, rfl, ru⟩ := vals1 r
  obtain ⟨h1, h2, h3, h4⟩ := of_gd hs
  obtain ⟨as, rd⟩ := Dp.reads I p x u hd ru
  have hu := hr.units
  cases hd with
  | non => cases ru; exact PySem.P.repr_of_none ⟨.str _, H, I.tok _, ⟨_, rfl⟩, q⟩
  | bl b => cases ru; exact PySem.P.repr_of_bool ⟨.str _, H, I.tok _, ⟨_, rfl⟩, q⟩
  | int i => obtain ⟨t, rfl⟩ := ru; exact PySem.P.repr_of_int (of_decide_eq_true h1) ⟨.str _, H, I.tok _, ⟨_, rfl⟩, q⟩
  | str y => obtain ⟨t, rfl⟩ := ru; exact PySem.P.repr_of_str ⟨.str _, H, I.tok _, ⟨_, rfl⟩, q⟩ h4
  | lst h h' =>
    cases ru
    exact repr_of_reads' rd h1 (PyData.noDict_hsm h2) hr.gu (by omega) (fun _ _ e => e) (fun h' u tk kp => ⟨.str _, H, I.kept kp, ⟨_, rfl⟩, q⟩) h4
  | tup h h' =>
    cases ru
    exact repr_of_reads' rd h1 (PyData.noDict_hsm h2) hr.gu (by omega) (fun _ _ e => e) (fun h' u tk kp => ⟨.str _, H, I.kept kp, ⟨_, rfl⟩, q⟩) h4
theorem cd_repr : CallD M (rRepr M.K) gRepr := by
  intro c F H σ δ xs ds z Q ok pxs e q
  unfold gRepr at e
  split at e
  · split at e
    · rename_i d p hp
      split at e
      · rename_i hs
        cases e
        obtain ⟨x, rfl, px⟩ := p1 pxs
        exact ⟨x, p, rfl, prep_dp ok.same px hp, hs, q _ F H (Same.refl _) ok rr_str⟩
      · cases e
    · cases e
  · cases e
theorem b_reprD {k : Nat} (hr : Room k X.A) (hg : Gl X "repr") (hm : X.mg "repr" = none) (ha : DB M W X [e] fa) (hK : X.K = M.K := by rfl) (he : starEach (e :: []) X.env = (false, eval e X.env) :: starEach [] X.env := by rfl) (hpl : (backTo pos (starEach [] X.env)).any (·.1) = false := by rfl) : DE M W X (.Call (.Name "repr" p) [e] [] pos) (fCal gRepr fa) := e_b (hK ▸ call_reprD hr) cd_repr bt_repr hg hm ha (by decide) (by decide) he hpl
end
end
end TS

namespace TS
open PySem L2
noncomputable section
def tLst (n : Nat) (hs : List D → Sl → SR) : R → Sl → SR := fun r δ => match r with
  | .imm (.lst ds) => if ds.length = n then hs ds δ else .bad
  | .own (.l ds) => if ds.length = n then hs ds δ else .bad
  | _ => .bad
section
variable {M : Gm} {W : WX} {X : Cx}
end
section
variable {X : Cx} {W : WX} {k n : Nat} {ks : List Str} {m : Str} {o e : Expr} {es : List Expr} {kws : List Keyword} {ta : TE} {t tkw : TA} {pos apos : Pos}
end
section
variable {M : Gm} {W : WX} {X : Cx} {e o : Expr} {es : List Expr} {kws : List Keyword} {fa fk : FA} {n l : Nat}
def fMethK (tab : Nat → Option Fm) (n l : Nat) (fo : FD) (fa fk : FA) : FE := fun δ => (fo δ).bind fun d δ1 => match d with
  | .obj c vs => (match tab c with
    | some f => (fa δ1).bind fun ds δ2 => (fk δ2).bind fun es δ3 => if ds.length = n ∧ es.length = l then outE (f none (.obj c vs :: (ds ++ es))) δ3 else .bad
    | none => .bad)
  | _ => .bad
end
end
end TS

namespace TS
open PySem L2
noncomputable section
section
variable {X : Cx} {W : WX} {k : Nat} {a b : Expr} {ta tb : TE} {pos : Pos}
end
def outO (r : FR) (δ : Sl) : Res R := match r with
  | .ok (.own o) _ => .ok (.own o) δ
  | .exc x _ => .exc x δ
  | _ => .bad
def fBinO (tab : Nat → Option Fm) (fa fb : FD) : FE := fun δ => (fa δ).bind fun x δ1 => (fb δ1).bind fun y δ2 => match x, y with
  | .obj n vs, .obj m ws => if n = m then (match tab n with
    | some f => outO (f none [.obj n vs, .obj m ws]) δ2
    | none => .bad) else .bad
  | _, _ => .bad
section
variable {M : Gm} {W : WX} {X : Cx} {a b e : Expr} {fa fb : FD}
end
def sPar3 (i j l : Nat) (fa : FA) : FS := fun δ => (fa δ).bindS fun ds δ1 => match ds with
  | [a, b, c] => .nx (((δ1.set i (some (.imm a))).set j (some (.imm b))).set l (some (.imm c)))
  | _ => .bad
section
variable {M : Gm} {W : WX} {X : Cx} {fa : FA}
end
end
end TS

namespace TS
open PySem L2
noncomputable section
def flatR : R → Bool
  | .imm .non => true
  | .imm (.bl _) => true
  | .imm (.int _) => true
  | .imm (.str _) => true
  | _ => false
def outP (r : FR) (δ : Sl) : Res R := match r with
  | .ok r _ => if flatR r then .ok r δ else .bad
  | _ => .bad
def fOwnP (f : Fm) (fa : FA) : FE := fun δ => (fa δ).bind fun ds δ1 => if ds.any D.dic then .bad else outP (f none ds) δ1
section
variable {M : Gm} {c : Cn M} {F H : Hp} {σ : St} {δ : Sl}
end
section
variable {M : Gm} {W : WX} {X : Cx} {e : Expr} {es : List Expr} {fa : FA} {f : Fm}
end
end
end TS

namespace TS
open PySem L2
noncomputable section
def srt (ns : List Int) : List Int := ns.mergeSort fun a b => decide (a ≤ b)
theorem srt_perm (ns : List Int) : (srt ns).Perm ns := List.mergeSort_perm _ _
theorem srt_le (ns : List Int) : (srt ns).Pairwise (· ≤ ·) := by
  have := List.pairwise_mergeSort (le := fun a b : Int => decide (a ≤ b)) (fun a b c h1 h2 => by simp at h1 h2 ⊢; omega) (fun a b => by simp; omega) ns
  exact this.imp fun h => by simpa using h
theorem sorted_uniq : ∀ {a b : List Int}, a.Perm b → a.Pairwise (· ≤ ·) → b.Pairwise (· ≤ ·) → a = b
  | [], b, h, _, _ => (List.nil_perm.mp h).symm
  | x :: a, [], h, _, _ => by simpa using h.length_eq
  | x :: a, y :: b, h, ha, hb => by
    obtain ⟨ha1, ha2⟩ := List.pairwise_cons.mp ha
    obtain ⟨hb1, hb2⟩ := List.pairwise_cons.mp hb
    have h1 : x = y := by
      have m1 : x ∈ y :: b := h.mem_iff.mp (by simp)
      have m2 : y ∈ x :: a := h.mem_iff.mpr (by simp)
      rcases List.mem_cons.mp m1 with z | z
      · exact z
      · rcases List.mem_cons.mp m2 with w | w
        · exact w.symm
        · have := hb1 x z
          have := ha1 y w
          omega
    subst h1
    rw [sorted_uniq (List.perm_cons x |>.mp h) ha2 hb2]
def gSorted : List D → Option R
  | [.lst ds] => (match intsD ds with
    | some ns => some (.own (.l ((srt ns).map D.int)))
    | none => none)
  | _ => none
section
variable {M : Gm} {W : WX} {X : Cx} {e : Expr} {es : List Expr} {fa : FA} {p pos : Pos}
theorem cd_sorted : CallD M (rSortedI M.K) gSorted := by
  intro c F H σ δ xs ds z Q ok pxs e q
  unfold gSorted at e
  split at e
  · rename_i ds'
    split at e
    · rename_i ns hn
      cases e
      obtain ⟨x, rfl, px⟩ := p1 pxs
      obtain ⟨a, vs, rfl, h1, h2⟩ := prep_lst ok.same px
      have ev : vs = ns.map V.int := intsD_v h2 hn
      subst ev
      refine ⟨a, ns, rfl, SqL.of h1, fun ns' p hp hs hn' => ?_⟩
      have en : ns' = srt ns := sorted_uniq (hp.trans (srt_perm ns).symm) hs (srt_le ns)
      subst en
      refine q _ F _ (Same.refl _) (ok.alloc hn') (ok.made hn' ⟨_, upd_same, ?_⟩)
      exact reps_ints (srt ns)
    · cases e
  · cases e
theorem bt_sorted : bootBuiltins "sorted" = some (.builtin "sorted") := by decide +kernel
theorem b_sorted (hg : Gl X "sorted") (hm : X.mg "sorted" = none) (ha : DB M W X [e] fa) (hK : X.K = M.K := by rfl) (he : starEach (e :: []) X.env = (false, eval e X.env) :: starEach [] X.env := by rfl) (hpl : (backTo pos (starEach [] X.env)).any (·.1) = false := by rfl) : DE M W X (.Call (.Name "sorted" p) [e] [] pos) (fCal gSorted fa) := e_b (hK ▸ cr_sortedI) cd_sorted bt_sorted hg hm ha (by decide) (by decide) he hpl
def mExtend : List D → List D → Option (D × List D)
  | ds, [.lst es] => if ds.length + es.length ≤ 16777216 then some (.non, ds ++ es) else none
  | _, _ => none
theorem md_extend : MutD M rExtend mExtend := by
  intro F H a vs xs ds as z ds' Q s hf hl hr ha e q
  unfold mExtend at e
  split at e
  · split at e
    · rename_i es hlen
      cases e
      obtain ⟨v, r, rfl, h2, h3⟩ := (show ∃ v r, xs = v :: r ∧ rep M F (.lst es) v ∧ reps M F [] r by unfold reps at ha; exact ha)
      unfold reps at h3
      subst h3
      unfold rep at h2
      obtain ⟨b, ws, rfl, k1, k2⟩ := h2
      exact ⟨a, b, vs, ws, rfl, rfl, hl, s _ _ k1, by rw [reps_length hr, reps_length k2, sizeLine_eq]; exact hlen, q _ _ rep_non' (reps_append hr k2)⟩
    · cases e
  · cases e
theorem m_extend {i : Nat} {o : Expr} {apos cpos : Pos} (ho : PE X o (tVar i)) (ha : DA M W X (e :: es) fa) (hb : attributeBase o "extend" X.env (eval o X.env) = eval o X.env := by rfl) (hfew : ((backTo cpos (starEach (e :: es) X.env)).all (fun x => !x.1) && (backToKw cpos (keywordEach [] X.env)).all (fun x => x.1.isSome) && decide ((e :: es).length + ([] : List Keyword).length + (if ([] : List Keyword).isEmpty then 0 else 1) < 30)) = true := by rfl) (hl : (apos.endLine == cpos.line) = true := by rfl)
    (he : starEach (e :: es) X.env = (false, eval e X.env) :: starEach es X.env := by rfl) (hpl : (backTo cpos (starEach es X.env)).any (·.1) = false := by rfl) : DI M W X (.Call (.Attribute o "extend" apos) (e :: es) [] cpos) (fMut i mExtend fa) :=
  d_mut (o := o) (fun h => pe_bm PySem.F.plainAttrs_list PySem.F.slot_list_extend PySem.F.type_list_extend mt_extend ho h hb hfew hl he hpl) md_extend ha
def stTrip (i j l : Nat) : D → Sl → Option Sl := fun d δ => match d with
  | .tup [a, b, c] => some (((δ.set i (some (.imm a))).set j (some (.imm b))).set l (some (.imm c)))
  | _ => none
theorem st_trip {i j l : Nat} (hij : i ≠ j) (hil : i ≠ l) (hjl : j ≠ l) : SetT M [i, j, l] (gTup M.K 3 (gCons (gName i) (gCons (gName j) (gCons (gName l) gNil)))) (stTrip i j l) := fun c F H σ δ δ' x d k ok r e hw q => by
  unfold stTrip at e
  split at e
  · cases e
    unfold rep at r
    obtain ⟨p, vs, rfl, h2, h3⟩ := r
    unfold reps at h3
    obtain ⟨v, r1, rfl, k1, h3⟩ := h3
    unfold reps at h3
    obtain ⟨w, r2, rfl, k2, h3⟩ := h3
    unfold reps at h3
    obtain ⟨u, r3, rfl, k3, h3⟩ := h3
    unfold reps at h3
    subst h3
    refine ⟨p, _, rfl, SqT.of (ok.same _ _ h2), rfl, v, _, rfl, w, _, rfl, u, _, rfl, rfl, q _ (((ok.setI i k1).setI j k2).setI l k3) ?_⟩
    show (((((σ.set i (some v)).set j (some w)).set l (some u)).set l none).set j none).set i none = σ
    have e1 : ((((σ.set i (some v)).set j (some w)).set l (some u)).set l none) = ((σ.set i (some v)).set j (some w)).set l none := List.set_set ..
    rw [e1, List.set_comm _ _ hjl, List.set_set, List.set_comm _ _ hil, List.set_comm _ _ (Ne.symm hij), List.set_set]
    have : ((σ.set l none).set j none).set i none = σ := hw
    rw [List.set_comm _ _ hij]
    exact this
  · cases e
end
def pick {α : Type} (n : Nat) (ix : List Nat) (d : α) (us ws : List α) : List α := us ++ ix.map fun j => ws.getD j d
def fmIx (n : Nat) (ix : List Nat) (fm : Fm) : Fm := fun io ds => match io with
  | none => fm none (ds.take n ++ ix.map fun j => (ds.drop n).getD j .non)
  | some _ => .bad
section
variable {M : Gm} {F H : Hp}
theorem vals_getD {zs : List V} {ws : List Value} (h : Vals zs ws) (j : Nat) : RelV (zs.getD j .non) (ws.getD j .none) := by
  induction h generalizing j with
  | nil => exact rfl
  | cons h1 h2 ih =>
    cases j with
    | zero => exact h1
    | succ j => exact ih j
theorem vals_ix {zs : List V} {ws : List Value} (h : Vals zs ws) : ∀ ix : List Nat, Vals (ix.map fun j => zs.getD j .non) (ix.map fun j => ws.getD j .none)
  | [] => .nil
  | j :: ix => .cons (vals_getD h j) (vals_ix h ix)
theorem reps_getD : ∀ {ds : List D} {vs : List V}, reps M F ds vs → ∀ j : Nat, rep M F (ds.getD j .non) (vs.getD j .non)
  | [], vs, h, j => by unfold reps at h; subst h; simp [rep]
  | d :: ds, vs, h, j => by
    unfold reps at h
    obtain ⟨v, r, rfl, h1, h2⟩ := h
    cases j with
    | zero => exact h1
    | succ j => exact reps_getD h2 j
theorem reps_ix {ds : List D} {vs : List V} (h : reps M F ds vs) : ∀ ix : List Nat, reps M F (ix.map fun j => ds.getD j .non) (ix.map fun j => vs.getD j .non)
  | [] => reps_nil
  | j :: ix => reps_cons (reps_getD h j) (reps_ix h ix)
end
section
variable {M : Gm} {P : Program} {w : World} {mg : Str → Option Value} {base : Heap} {k n : Nat} {ks ps : List Str} {f : Addr} {fm : Fm} {fd : FuncData} {ix : List Nat}
theorem kb_ixD {K : PySem.W.Frag} {x qual : Str} {params : Arguments} {body : List Stmt} {scope : Scope} {dvs : List V} {kws : List (Str × V)} (F : FunD K x qual params body scope dvs kws f fd) (hd : dvs ≠ [])
    (h : ∀ (T : Addr) (kV doc pm : Value) (an : Option Addr) (cdv ct : Value) (us its ws : List Value), us.length = n → its.length = dvs.length → ws.length = ks.length →
      ∃ k, bindArgs (PySem.W.fnOf x qual params body scope (.ref T) kV doc pm an cdv ct) ⟨us, ks.zip ws⟩ = seqItems? (.ref T) >>= k ∧ k (some its.toArray) = pure (ps.zip (pick n ix .none us ws))) : KBn K fd ps n ks (pick n ix .none) (pick n ix .non) := by
  obtain ⟨oc, od, dV, kV, doc, pm, an, cdv, ct, osl, rfl, lk, hcd, hD, hK⟩ := F.ex
  rcases hD with ⟨e, _⟩ | ⟨_, T, o, its, m, rfl, lT, oT, rT⟩
  · exact absurd e hd
  · refine ⟨fun s us ws kin l1 l2 => ?_, fun r rz => r.append (vals_ix rz ix)⟩
    obtain ⟨k, e1, e2⟩ := h T kV doc pm an cdv ct us its ws l1 rT.length.symm l2
    refine BindsTo.of_looks fun M => ?_
    rw [e1]
    exact looks_items kin lT oT (.of_pure e2)
theorem fnK_ix (F : FnOk P w M.K mg base (L2.CX P w) k f fd ps (spD M fm)) (hb : KBn M.K fd ps n ks (pick n ix .none) (pick n ix .non)) : FnK P w M.K mg base (L2.CX P w) k f n ks (spD M (fmIx n ix fm)) :=
  FnOk.kw F hb fun vs zs H Q E l1 l2 h => by
    obtain ⟨F0, io, a, ws, ds, e, s, tb, rs, ia, h⟩ := h
    cases io with
    | none =>
      have e : vs ++ zs = ws := e
      subst e
      have hl := reps_length rs
      have r1 : reps M F0 (ds.take n) vs := by
        have := reps_take n rs
        rw [List.take_left' l1] at this
        exact this
      have r2 : reps M F0 (ds.drop n) zs := by
        have := reps_drop n rs
        rw [List.drop_left' l1] at this
        exact this
      exact ⟨F0, none, a, _, _, rfl, s, tb, reps_append r1 (reps_ix r2 ix), ia, h⟩
    | some o => exact h.elim
end
end
end TS

namespace TS
open PySem PySem.Spec L2
noncomputable section
theorem turn_long {P : Program} {w : World} {K : PySem.W.Frag} {tg : Expr} (it : Addr) (lo : Int) (n : Nat) : Turn P w K tg (Itr lo n) [it] it (fun i h => IsLongIter h it (lo + (i : Nat) * 1) ((n : Int) - (i : Nat)) 1) where
  mem := by simp
  obj := fun i h st b hb => by
    have e : b = it := by simpa using hb
    subst e
    exact ⟨_, st, fun v z => by
      have z' : Data.fields _ = Data.cell v := z
      cases z'⟩
  keep := fun i h h' st k => k it (by simp) _ st
  item := by
    intro X hP hw hK hc i pins s σ H E I hf st hg
    subst hP hw hK
    obtain ⟨f0, f1, f2, f3, f4, f5⟩ := hf it (by simp)
    have W := PySem.Walks.longrange (prog := X.prog) (w := X.w) (I.ok.hd hc) it lo 1 n
    refine W.item i s _ _ hg st fun v h' tk hv st' kk => ?_
    obtain ⟨t, rfl⟩ := hv
    have I1 : Inv X pins σ H { s with heap := h', toks := tk } := I.turned (fun b o hb e => kk b o (by simpa using hb) e) f0 f1 f3 f4 f5
    refine ⟨_, rfl, go_of (s := { s with heap := h', toks := tk }) (n := "longrange_iterator") st' rfl rfl (by decide) ⟨.int (lo + i), H, I1, ⟨t, ?_⟩, ⟨rfl, rfl⟩, st', fun b hb => (hf b hb).1⟩⟩
    rw [Int.mul_one]
  done := by
    intro X hP hw hK hc i pins s σ H E I hf st hg
    subst hP hw hK
    obtain ⟨f0, f1, f2, f3, f4, f5⟩ := hf it (by simp)
    exact wpAny_pyNext_long_end (I.ok.hd hc) st (by have : n ≤ i := hg; omega) fun h' eb => ⟨rfl, I.turned (t' := s.toks) (fun b o hb e => eb b o hb e) f0 f1 f3 f4 f5⟩
  self := fun _ _ _ _ _ st h => wpAny_pyIter_longiter st h
section
variable {X : Cx} {tg : Expr}
theorem range_itW {pins : List (Addr × Obj)} {σ : St} {H : Hp} {s : Shared} {R : It → Hp → Prop} {E : Value → Shared → Prop} {lo hi : Int} {t u v : Tok} {tk : Nat} (I : Inv X pins σ H s)
    (q : R (Itr lo (hi - lo).toNat) H) : wpAny (model X.prog X.w) X.A (pyIter (.ref s.heap.objs.size)) (PIE X pins σ tg R) E { s with heap := s.heap.push { cls := .type "range", data := .fields #[.int lo t, .int hi u, .int 1 v] }, toks := tk } := by
  have I1 : Inv X pins σ H { s with heap := s.heap.push { cls := .type "range", data := .fields #[.int lo t, .int hi u, .int 1 v] }, toks := tk } := I.kept fun b o e => Heap.get?_push_of_some _ e
  have e1 : lo + ((0 : Nat) : Int) * 1 = lo := by simp
  have e2 : (((hi - lo).toNat : Nat) : Int) - ((0 : Nat) : Int) = Builtin.Range.rangeSize lo hi 1 := by rw [rangeSize_one]; split <;> omega
  cases hs : Builtin.Range.small lo hi 1 with
  | true =>
    refine wpAny_pyIter_range (IsRange.new ..) hs ?_
    refine ⟨(s.heap.push { cls := .type "range", data := .fields #[.int lo t, .int hi u, .int 1 v] }).objs.size, [(s.heap.push { cls := .type "range", data := .fields #[.int lo t, .int hi u, .int 1 v] }).objs.size], _, _, H, rfl,
      I1.kept (t' := tk) fun b o e => Heap.get?_push_of_some _ e, turn_range _ lo (hi - lo).toNat, ?_, fun b hb => ?_, q⟩
    · show IsRangeIter _ _ (lo + ((0 : Nat) : Int) * 1) ((((hi - lo).toNat : Nat) : Int) - ((0 : Nat) : Int)) 1
      rw [e1, e2]
      exact Heap.get?_push_size _ rfl
    · have e : b = (s.heap.push { cls := .type "range", data := .fields #[.int lo t, .int hi u, .int 1 v] }).objs.size := by simpa using hb
      subst e
      exact I1.fpOk (Nat.le_refl _) (I1.hok.fresh (Nat.le_refl _))
  | false =>
    refine wpAny_pyIter_longrange (IsRange.new ..) hs ?_
    refine ⟨(s.heap.push { cls := .type "range", data := .fields #[.int lo t, .int hi u, .int 1 v] }).objs.size, [(s.heap.push { cls := .type "range", data := .fields #[.int lo t, .int hi u, .int 1 v] }).objs.size], _, _, H, rfl,
      I1.kept (t' := tk) fun b o e => Heap.get?_push_of_some _ e, turn_long _ lo (hi - lo).toNat, ?_, fun b hb => ?_, q⟩
    · show IsLongIter _ _ (lo + ((0 : Nat) : Int) * 1) ((((hi - lo).toNat : Nat) : Int) - ((0 : Nat) : Int)) 1
      rw [e1, e2]
      exact Heap.get?_push_size _ rfl
    · have e : b = (s.heap.push { cls := .type "range", data := .fields #[.int lo t, .int hi u, .int 1 v] }).objs.size := by simpa using hb
      subst e
      exact I1.fpOk (Nat.le_refl _) (I1.hok.fresh (Nat.le_refl _))
def iRng2W (ta : TA) : TI := fun σ H R => ta σ H fun vs H1 => ∃ i j : Int, vs = [.int i, .int j] ∧ R (Itr i (j - i).toNat) H1
theorem pi_range2W {a b : Expr} {ta : TA} {p pos : Pos} (hg : Gl X "range") (hm : X.mg "range" = none) (ha : PA X [a, b] ta) (hs : starEach [a, b] X.env = [(false, eval a X.env), (false, eval b X.env)] := by rfl) (hs2 : starEach [b] X.env = [(false, eval b X.env)] := by rfl) :
    PI X tg (.Call (.Name "range" p) [a, b] [] pos) (iRng2W ta) := by
  refine ⟨fun pins s σ H R I h => ?_⟩
  refine PyProof.Rows.Call_ (ld_blt I hg hm PyProof.Rows.boot_range (PyProof.Rows.callWith_type1 (thn (ha.run pos pins s σ H _ I h) fun us s1 ⟨vs, H1, I1, r1, q1⟩ => ?_) (by rw [hs, hs2]) (by rw [hs2]; rfl)))
  obtain ⟨i, j, e, q⟩ := q1
  subst e
  cases r1 with
  | cons r rr =>
    cases rr with
    | cons r' rr =>
      cases rr
      obtain ⟨t, rfl⟩ := r
      obtain ⟨t', rfl⟩ := r'
      exact call_range_2 (range_itW I1 q)
end
section
variable {M : Gm} {W : WX} {X : Cx} {tg e : Expr}
def itRg2W (f g : FD) : FA := fun δ => (f δ).bind fun d δ => (g δ).bind fun d' δ => match d, d' with
  | .int m, .int n => .ok (rgD m n) δ
  | _, _ => .bad
theorem dit_rg2W {a b : Expr} {f g : FD} {p pos : Pos} (hg : Gl X "range") (hm : X.mg "range" = none) (h : DI M W X a f) (h' : DI M W X b g) (hs : starEach [a, b] X.env = [(false, eval a X.env), (false, eval b X.env)] := by rfl) (hs2 : starEach [b] X.env = [(false, eval b X.env)] := by rfl)
    (hs3 : starEach (a :: [b]) X.env = (false, eval a X.env) :: starEach [b] X.env := by rfl) (hs4 : starEach (b :: []) X.env = (false, eval b X.env) :: starEach [] X.env := by rfl) : DIt M W X tg (.Call (.Name "range" p) [a, b] [] pos) (itRg2W f g) := by
  obtain ⟨t, pp, h⟩ := h
  obtain ⟨t', pp', h'⟩ := h'
  refine ⟨_, pi_range2W hg hm (pa_cons pp (pa_cons pp' pa_nil hs4) hs3) hs hs2, fun c F H σ δ Q ok post => h c F H σ δ _ ok (Post.bind post fun d δ1 v F1 H1 _ s1 ok1 r post => h' c F1 H1 σ δ1 _ ok1 (Post.bind post fun d' δ2 v' F2 H2 _ s2 ok2 r' post => ?_))⟩
  obtain ⟨m, rfl⟩ : ∃ m, d = .int m := by cases d <;> first | exact ⟨_, rfl⟩ | exact post.elim
  obtain ⟨n, rfl⟩ : ∃ n, d' = .int n := by cases d' <;> first | exact ⟨_, rfl⟩ | exact post.elim
  simp only at post
  unfold ρD rep at r r'
  subst r
  subst r'
  exact ⟨m, n, rfl, post.ok ok2 (walks_range (M := M) (F := F2) m (n - m).toNat)⟩
end
end
end TS

namespace TS
open PySem L2 PyProof.Rows
open AutoSeq1 (wpAny_loadPart')
noncomputable section
theorem enumT_new (tu : Addr) (its : Array Value) (cn : Nat) (dd : Option Addr) (ss : Array (Option Value)) :
    Meets (Builtin.«enumerate.__new__» ⟨[.type "enumerate", .ref tu], []⟩) (fun _ Rr sh => sh.heap.get? tu = some { cls := .type "tuple", dict := dd, data := .seq its cn, slots := ss } ∧
      Rr (.ok (.ret (.ref (sh.heap.push { cls := .type "tuple_iterator", data := .fields #[.ref tu, .int 0 0] }).objs.size)))
        { sh with heap := (sh.heap.push { cls := .type "tuple_iterator", data := .fields #[.ref tu, .int 0 0] }).push { cls := .type "enumerate", data := .fields #[.none, .bool false, .ref sh.heap.objs.size, rawInt 0, .none, .none] } }) :=
  .of_wp fun prog w A Rr sh z => by
    obtain ⟨hp, g, d, tk, os⟩ := sh
    obtain ⟨hl, z⟩ := z
    have sub := sub_enumerate
    have hL : Heap.IsTuple (Shared.heap ⟨hp, g, d, tk, os⟩) tu its := ⟨_, hl, rfl, _, rfl⟩
    wp_walk using wpAny_loadPart' hl
    refine wpAny_stack_any fun st => wpAny_pure ?_
    split
    · rename_i c _ _ _ _ _
      cases (c == Value.type "enumerate") <;> (wp_walk using wpAny_loadPart' hl, wpAny_pyIter_tuple hL; exact ⟨_, rfl, z⟩)
    · wp_walk using wpAny_loadPart' hl, wpAny_pyIter_tuple hL
      exact ⟨_, rfl, z⟩
theorem call_enumT {P : Program} {w : World} {A : Around} {Ex : Value → Shared → Prop} {sh : Shared} {tu : Addr} {its : Array Value} {Q : Value → Shared → Prop} (hL : sh.heap.IsTuple tu its)
    (z : ∀ h2, IsEnum h2 (sh.heap.objs.size + 1) sh.heap.objs.size 0 .none → h2.IsTupleIter sh.heap.objs.size tu 0 → h2.objs.size = sh.heap.objs.size + 2 →
      (∀ b o, sh.heap.get? b = some o → h2.get? b = some o) → Q (.ref (sh.heap.objs.size + 1)) { sh with heap := h2 }) :
    wpAny (model P w) A (call (.type "enumerate") [.ref tu]) Q Ex sh := by
  obtain ⟨⟨cc, dd, dt, ss⟩, hl, hc, n, hd⟩ := hL
  replace hc : cc = .type "tuple" := hc
  replace hd : dt = .seq its n := hd
  subst hc hd
  refine callType_new F.called_enumerate (by decide) (F.typeCall_enumerate_1 _) (F.newCall_enumerate_1 _) (fun ob => F.args_object_init_2 ob _) F.entry_enumerate_new (enumT_new tu its n dd ss) ⟨hl, ?_⟩
  have hz : (sh.heap.push { cls := .type "tuple_iterator", data := .fields #[.ref tu, .int 0 0] }).objs.size = sh.heap.objs.size + 1 := Heap.size_push ..
  show _ ∧ _
  rw [hz]
  have he : IsEnum ((sh.heap.push { cls := .type "tuple_iterator", data := .fields #[.ref tu, .int 0 0] }).push
      { cls := .type "enumerate", data := .fields #[.none, .bool false, .ref sh.heap.objs.size, rawInt 0, .none, .none] }) (sh.heap.objs.size + 1) sh.heap.objs.size 0 .none := by
    have q := Heap.get?_push_size (sh.heap.push { cls := .type "tuple_iterator", data := .fields #[.ref tu, .int 0 0] })
      (o := { cls := .type "enumerate", data := .fields #[.none, .bool false, .ref sh.heap.objs.size, rawInt 0, .none, .none] }) rfl
    rw [hz] at q
    exact q
  exact ⟨⟨_, he, rfl⟩, z _ he ⟨_, Heap.get?_push_of_some _ (Heap.get?_push_size _ rfl), rfl, rfl⟩ (by rw [Heap.size_push, hz]) fun b o q => Heap.get?_push_of_some _ (Heap.get?_push_of_some _ q)⟩
def IteT (K : PySem.W.Frag) (a : Addr) : It :=
  ⟨fun i H => ∃ (xs : List V) (x : V), SqT K H a xs ∧ xs[i]? = some x, fun i H v H' => ∃ T x, v = .ref T ∧ H T = none ∧ H' = upd H T (.tup [.int (i : Nat), x]) ∧ ∀ xs, SqT K H a xs → xs[i]? = some x, fun i H => ∃ xs : List V, SqT K H a xs ∧ xs.length ≤ i⟩
theorem turn_enumT {P : Program} {w : World} {K : PySem.W.Frag} {elts : List Expr} {kk : Nat} {tpos : Pos} (a e it : Addr) :
    Turn P w K (.Tuple elts kk tpos) (IteT K a) [e, it] e (fun i h => (∃ old, IsEnum h e it ((i : Nat) : Int) old) ∧ h.IsTupleIter it a i ∧ e ≠ it) where
  mem := by simp
  obj := fun i h st b hb => by
    obtain ⟨⟨old, he⟩, ⟨o, ho, hc, hd⟩, _⟩ := st
    rcases (show b = e ∨ b = it by simpa using hb) with z | z
    · subst z; exact ⟨_, he, fun v q => nomatch q⟩
    · subst z; exact ⟨o, ho, fun v q => by rw [hd] at q; cases q⟩
  keep := fun i h h' st k => let ⟨⟨old, he⟩, hi, hn⟩ := st; ⟨⟨old, k e (by simp) _ he⟩, hi.at (fun o q => k it (by simp) o q), hn⟩
  item := by
    intro X hP hw hK hc i pins s σ H E I hf st hg
    subst hP hw hK
    obtain ⟨⟨old, he⟩, hit, hn⟩ := st
    obtain ⟨xs, x, hq, hx⟩ := hg
    obtain ⟨its, rv, p, hz⟩ := I.tuple hq
    have p' : s.heap.IsTuple a its.toArray := p
    have ae : a ≠ e := fun z => by
      obtain ⟨o, ho, hcl, _⟩ := p'
      rw [z] at ho
      have he' := Option.some.inj (he.symm.trans ho)
      rw [← he'] at hcl
      exact (show ¬ (Value.type "enumerate" = Value.type "tuple") by decide) hcl
    have ai : a ≠ it := fun z => by
      obtain ⟨o, ho, hcl, _⟩ := p'
      obtain ⟨o2, ho2, hcl2, _⟩ := hit
      rw [z, ho2] at ho
      cases ho
      rw [hcl2] at hcl
      exact absurd hcl (by decide)
    have hil : i < its.toArray.size := by
      have := rv.length
      have := (List.getElem?_eq_some_iff.mp hx).1
      simp; omega
    have hel : e < s.heap.objs.size := Heap.lt_size he
    have hitl : it < s.heap.objs.size := by obtain ⟨_, q, _⟩ := hit; exact Heap.lt_size q
    refine wpAny_pyNext_enum_itemD (Draws.tuple (show X.A.in1.handled = none from I.ok.hd hc) it a ai its.toArray) he ⟨hit, p'⟩ hil hn (by simp [hn, Ne.symm ae]) fun u h2 tk hu ho st2 hT hsz hk => ?_
    obtain ⟨hit2, hp2⟩ := st2
    obtain ⟨u', hu', ru⟩ := rv.get hx
    have eu : u' = u := by
      have : its.toArray[i]? = some u' := by simpa using hu'
      rw [this] at hu
      exact Option.some.inj hu
    subst eu
    refine ⟨_, rfl, wpAny_letOwnedTupleGo_enum (s := { s with heap := h2, toks := tk + 1 }) ho fun h3 he3 sb => ?_⟩
    have hT3 : h3.get? s.heap.objs.size = some { cls := .type "tuple", data := .seq #[.int i tk, u'] } := (sb.2 _ (Nat.ne_of_gt hel)).trans hT
    have nw : ObjOk X.prog X.w (upd H s.heap.objs.size (.tup [.int (i : Nat), x])) h3 s.heap.objs.size (.tup [.int (i : Nat), x]) :=
      ⟨by show 2 ≤ sizeLine; decide, [.int i tk, u'], .cons ⟨_, rfl⟩ (.cons ru .nil), ⟨_, hT3, rfl, _, rfl⟩⟩
    have I2 : Inv X pins σ (upd H s.heap.objs.size (.tup [.int (i : Nat), x])) { s with heap := h3, toks := tk + 1 } :=
      I.turnedNew (ch := [e, it]) (fun b ob hb q => (sb.2 b (fun z => hb (by simp [z]))).trans (hk b ob (fun z => hb (by simp [z])) (fun z => hb (by simp [z])) q)) hf (Nat.le_refl _) nw
    refine ⟨.ref s.heap.objs.size, _, I2, rfl, ⟨_, x, rfl, I.hok.fresh (Nat.le_refl _), rfl, fun ys hy => by rw [I.tuple_inj hy hq]; exact hx⟩, ⟨⟨u', ?_⟩, hit2.at fun o q => (sb.2 it (Ne.symm hn)).trans q, hn⟩, fun b hb => ?_⟩
    · rw [show ((i + 1 : Nat) : Int) = (i : Int) + 1 by omega]; exact he3
    · have hb' : b < s.heap.objs.size := by
        rcases (show b = e ∨ b = it by simpa using hb) with z | z
        · rw [z]; exact hel
        · rw [z]; exact hitl
      rw [upd_ne (Nat.ne_of_lt hb')]
      exact (hf b hb).1
  done := by
    intro X hP hw hK hc i pins s σ H E I hf st hg
    subst hP hw hK
    obtain ⟨⟨old, he⟩, hit, hn⟩ := st
    obtain ⟨xs, hq, hx⟩ := hg
    obtain ⟨its, rv, p, hz⟩ := I.tuple hq
    have p' : s.heap.IsTuple a its.toArray := p
    obtain ⟨f0, f1, f2, f3, f4, f5⟩ := hf it (by simp)
    have hl := rv.length
    have hne : its.toArray[i]? = none := by simp; omega
    have D : Draws X.prog X.w X.A.in1 it [it, a] i (fun _ _ => True) (fun j h => j = i ∧ h.IsTupleIter it a i ∧ h.IsTuple a its.toArray) :=
      ⟨fun _ _ st => let ⟨_, ⟨o, ho, _⟩, _⟩ := st; ⟨o, ho⟩, fun _ _ _ st hk => ⟨st.1, st.2.1.at fun o q => hk it (by simp) o q, st.2.2.at fun o q => hk a (by simp) o q⟩, fun j _ _ _ hj st _ => absurd st.1 (Nat.ne_of_lt hj),
        fun _ _ _ st hE => wpAny_nextOf_tuple_end (show X.A.in1.handled = none from I.ok.hd hc) st.2.1 st.2.2 hne hE⟩
    exact wpAny_pyNext_enum_endD D he ⟨rfl, hit, p'⟩ fun h2 eb => ⟨rfl, I.turned (t' := s.toks) (fun b o hb q => eb b o hb q) f0 f1 f3 f4 f5⟩
  self := fun A i s Q E st h => let ⟨⟨_, he⟩, _⟩ := st; wpAny_pyIter_enum he h
def iEnumLT (K : PySem.W.Frag) (ta : TA) : TI := fun σ H Rr => ta σ H fun vs H1 => (∃ a xs, vs = [.ref a] ∧ SqL K H1 a xs ∧ Rr (Ite K a) H1) ∨ (∃ a xs, vs = [.ref a] ∧ SqT K H1 a xs ∧ Rr (IteT K a) H1)
theorem pi_enumLT {X : Cx} {e : Expr} {ta : TA} {p pos tpos : Pos} {elts : List Expr} {kk : Nat} (hg : Gl X "enumerate") (hm : X.mg "enumerate" = none) (ha : PA X [e] ta) (hs : starEach [e] X.env = [(false, eval e X.env)] := by rfl) :
    PI X (.Tuple elts kk tpos) (.Call (.Name "enumerate" p) [e] [] pos) (iEnumLT X.K ta) := by
  refine ⟨fun pins s σ H Rr I h => ?_⟩
  refine Call_ (ld_blt I hg hm boot_enumerate (PyProof.Rows.callWith_type1 (thn (ha.run pos pins s σ H _ I h) fun us s1 ⟨vs, H1, I1, r1, q1⟩ => ?_) hs rfl))
  rcases q1 with ⟨a, xs, ex, hq, q⟩ | ⟨a, xs, ex, hq, q⟩ <;> subst ex <;> obtain _ | ⟨r, rr⟩ := r1 <;> cases rr <;> cases r
  · obtain ⟨its, rv, p', hz⟩ := I1.list hq
    refine call_enumerate_list p'.isList fun h' he hit hsz hk => wpAny_pyIter_enum he ?_
    have I2 : Inv X pins σ H1 { s1 with heap := h' } := I1.kept (t' := s1.toks) hk
    refine ⟨s1.heap.objs.size + 1, [s1.heap.objs.size + 1, s1.heap.objs.size], _, _, H1, rfl, I2, turn_enum a (s1.heap.objs.size + 1) s1.heap.objs.size, ⟨⟨.none, he⟩, hit, Nat.succ_ne_self _⟩, fun b hb => ?_, q⟩
    have hle : s1.heap.objs.size ≤ b := by
      rcases (show b = s1.heap.objs.size + 1 ∨ b = s1.heap.objs.size by simpa using hb) with z | z
      · rw [z]; exact Nat.le_add_right _ _
      · rw [z]; exact Nat.le_refl _
    exact I1.fpOk hle (I1.hok.fresh hle)
  · obtain ⟨its, rv, p', hz⟩ := I1.tuple hq
    refine call_enumT (show s1.heap.IsTuple a its.toArray from p') fun h' he hit hsz hk => wpAny_pyIter_enum he ?_
    have I2 : Inv X pins σ H1 { s1 with heap := h' } := I1.kept (t' := s1.toks) hk
    refine ⟨s1.heap.objs.size + 1, [s1.heap.objs.size + 1, s1.heap.objs.size], _, _, H1, rfl, I2, turn_enumT a (s1.heap.objs.size + 1) s1.heap.objs.size, ⟨⟨.none, he⟩, hit, Nat.succ_ne_self _⟩, fun b hb => ?_, q⟩
    have hle : s1.heap.objs.size ≤ b := by
      rcases (show b = s1.heap.objs.size + 1 ∨ b = s1.heap.objs.size by simpa using hb) with z | z
      · rw [z]; exact Nat.le_add_right _ _
      · rw [z]; exact Nat.le_refl _
    exact I1.fpOk hle (I1.hok.fresh hle)
section
variable {M : Gm} {c : Cn M} {W : WX} {X : Cx} {tg e : Expr} {F F1 H H1 : Hp} {σ : L2.St} {δ : Sl}
theorem walks_enumT {a : Addr} {vs : List V} {ds : List D} (hK : X.K = M.K) (hF : SqT M.K F a vs) (r : reps M F ds vs) : Walks M (IteT X.K a) F (enumD 0 ds) := fun i H s => by
  have hq : SqT X.K H a vs := by rw [hK]; exact Same.seqT s hF
  rw [enumD_get]
  refine ⟨fun d hd => ?_, fun hn => ⟨vs, hq, ?_⟩⟩
  · obtain ⟨d0, hd0, rfl⟩ := Option.map_eq_some_iff.mp hd
    obtain ⟨v, e1, e2⟩ := reps_get r hd0
    refine ⟨⟨vs, v, hq, e1⟩, fun x H' y => ?_⟩
    obtain ⟨T, x0, k1, k2, k3, k4⟩ := y
    have := k4 vs hq
    rw [e1] at this; cases this
    exact Yl.new s k2 k1 k3 rfl (reps_cons (by rw [Nat.zero_add]; exact rep_int' _) (reps_cons e2 reps_nil))
  · rw [reps_length r]
    exact List.getElem?_eq_none_iff.mp (by simpa using hn)
def itEnumLT (f : FD) : FA := fun δ => (f δ).bind fun d δ => match d with
  | .lst ds => .ok (enumD 0 ds) δ
  | .tup ds => .ok (enumD 0 ds) δ
  | _ => .bad
theorem dit_enumLT {a : Expr} {f : FD} {p pos tpos : Pos} {elts : List Expr} {kk : Nat} (hg : Gl X "enumerate") (hm : X.mg "enumerate" = none) (h : DI M W X a f) (hK : X.K = M.K := by rfl) (hs : starEach [a] X.env = [(false, eval a X.env)] := by rfl) (hs2 : starEach (a :: []) X.env = (false, eval a X.env) :: starEach [] X.env := by rfl) :
    DIt M W X (.Tuple elts kk tpos) (.Call (.Name "enumerate" p) [a] [] pos) (itEnumLT f) := by
  obtain ⟨t, pp, h⟩ := h
  refine ⟨_, pi_enumLT hg hm (pa_cons pp pa_nil hs2) hs, fun c F H σ δ Q ok post => h c F H σ δ _ ok (Post.bind post fun d δ1 v F1 H1 _ s1 ok1 r post => ?_)⟩
  split at post
  · unfold ρD rep at r
    obtain ⟨a, vs, rfl, h2, h3⟩ := r
    exact .inl ⟨a, vs, rfl, SqL.of (ok1.same _ _ h2), post.ok ok1 (walks_enum hK h2 h3)⟩
  · unfold ρD rep at r
    obtain ⟨a, vs, rfl, h2, h3⟩ := r
    exact .inr ⟨a, vs, rfl, by rw [hK]; exact SqT.of (ok1.same _ _ h2), post.ok ok1 (walks_enumT hK (SqT.of h2) h3)⟩
  · exact post.elim
end
end
end TS

namespace TS
open PySem L2 PySem.W PySem.Calls PyProof.Rows
noncomputable section
inductive Bas : String → Prop
  | ve : Bas "ValueError"
  | ar : Bas "ArithmeticError"
  | lk : Bas "LookupError"
theorem Bas.base {B : String} (b : Bas B) : ExcBaseFacts B (B ++ ".__new__") (B ++ ".__init__") (bmOf B) := by
  cases b
  · exact F.excBase_ValueError
  · exact F.excBase_ArithmeticError
  · exact F.excBase_LookupError
theorem Bas.store {B : String} (b : Bas B) : StoreFacts B (bmOf B) "object.__setattr__" "object" := by
  cases b
  · exact F.store_ValueError
  · exact F.store_ArithmeticError
  · exact F.store_LookupError
structure OxC (K : PySem.W.Frag) (C : Addr) : Prop where
  bas : ∃ B, Bas B ∧ excInitIn K C (bmOf B) (B ++ ".__new__") = true ∧ excOver K C (bmOf B) = true
  hd : ∃ cd, clsIn K C = some cd ∧ cd.hasDict = true
  sa : findIn K (.ref C) "__setattr__" = some (some (.builtin "object.__setattr__"))
  exC : subIn K (.ref C) (.type "BaseException") = some true
  tyC : typeIn K (.ref C) = some (.type "type")
  kC : keepIn K (.ref C) = true
section
open Builtin Builtin.ObjectAttr
variable {prog : Program} {w : World} {A : Around} {R : Result → Shared → Prop} {hp : Heap} {g : Array GenState} {d : Drawn} {t : Nat} {os : OsState} {K : PySem.W.Frag} {name : Str} {tk : Tok} {v : Value} {x C dx : Addr} {fv : Array Value}
theorem ox_new (T : OxC K C) (X : K.In hp) (hx : hp.get? x = some { cls := .ref C, data := .fields fv }) (ha : findIn K (.ref C) name = some none)
    (hq : ∀ h2 tk2 dx, (∀ b o, b ≠ x → hp.get? b = some o → h2.get? b = some o) → hp.objs.size ≤ dx → dx ≠ x → h2.get? x = some { cls := .ref C, dict := some dx, data := .fields fv } →
      h2.Ns1 dx (fun y => if y = name then some v else none) → R (.ok (.ret .none)) ⟨h2, g, d, tk2, os⟩) :
    codeAny (model prog w) A (.call (.builtin "object.__setattr__") ⟨[.ref x, .str name tk, v], []⟩) R ⟨hp, g, d, t, os⟩ := by
  obtain ⟨B, hB, _, ov⟩ := T.bas
  obtain ⟨cd, hcd, hh⟩ := T.hd
  have J : InstAt hp x { cls := .ref C, data := .fields fv } C none := ⟨hx, rfl, rfl, trivial⟩
  have hxs : x ≠ hp.objs.size := Nat.ne_of_lt (Heap.lt_size hx)
  have hcls : Looks (model prog w) hp (classData C) cd := looks_clsIn X hcd
  refine osa_openX (s := ⟨hp, g, d, t, os⟩) hB.store X J ov (r := none) (by unfold takerIn; rw [ha]; rfl) fun bb => ?_
  show wpAny _ _ (storeInOwnDict (.ref x) (.ref C) (.str name tk) name v bb) _ _ _
  obtain ⟨nm, bs, mro, ns, qn, hd, sn, sb, ab, col, del⟩ := cd
  dsimp only at hh
  subst hh
  unfold storeInOwnDict ownDictForStores
  repeat (first | with_reducible refine HandSPX.store_in_new ?_ ?_ | with_reducible refine wpAny_loadPart_at hx ?_ | with_reducible refine hcls.at ?_ | wp_step)
  · exact ⟨_, #[], _, (Heap.get?_update_ne _ _ _ _ hxs.symm).trans (Heap.get?_push_at rfl rfl), rfl, fun e he => absurd he (by simp), fun _ => rfl⟩
  · intro h2 tk2 hn2 hs
    have hx2 : (hp.push { cls := .type "dict", data := .dict #[] }).get? x = some { cls := .ref C, data := .fields fv } := Heap.get?_push_of_some _ hx
    refine hq h2 tk2 hp.objs.size (fun b o hb ho => ?_) (Nat.le_refl _) hxs.symm ?_ hn2
    · exact (hs.2 b (Nat.ne_of_lt (Heap.lt_size ho))).trans ((Heap.get?_update_ne _ _ _ _ hb).trans (Heap.get?_push_of_some _ ho))
    · exact (hs.2 x hxs).trans (Heap.get?_update_self _ hx2 rfl)
theorem ox_old {m0 : Str → Option Value} {nl : List Str} (T : OxC K C) (X : K.In hp) (hx : hp.get? x = some { cls := .ref C, dict := some dx, data := .fields fv }) (hns : hp.Ns1 dx m0) (hw : Within m0 nl) (hz : nl.length ≤ 1000) (ha : findIn K (.ref C) name = some none)
    (hq : ∀ h2 tk2, (∀ b o, b ≠ dx → hp.get? b = some o → h2.get? b = some o) → h2.Ns1 dx (fun y => if y = name then some v else m0 y) → R (.ok (.ret .none)) ⟨h2, g, d, tk2, os⟩) :
    codeAny (model prog w) A (.call (.builtin "object.__setattr__") ⟨[.ref x, .str name tk, v], []⟩) R ⟨hp, g, d, t, os⟩ := by
  obtain ⟨B, hB, _, ov⟩ := T.bas
  obtain ⟨cd, hcd, hh⟩ := T.hd
  obtain ⟨oD, esD, epD, hoD, hdD, _⟩ := hns.count hw
  have J : InstAt hp x { cls := .ref C, dict := some dx, data := .fields fv } C (some oD) := ⟨hx, rfl, rfl, hoD⟩
  have hcls : Looks (model prog w) hp (classData C) cd := looks_clsIn X hcd
  refine osa_openX (s := ⟨hp, g, d, t, os⟩) hB.store X J ov (r := none) (by unfold takerIn; rw [ha]; rfl) fun bb => ?_
  show wpAny _ _ (storeInOwnDict (.ref x) (.ref C) (.str name tk) name v bb) _ _ _
  obtain ⟨nm, bs, mro, ns, qn, hd, sn, sb, ab, col, del⟩ := cd
  dsimp only at hh
  subst hh
  unfold storeInOwnDict ownDictForStores
  repeat (first | with_reducible refine OEX.store_in_old hns hw hz ?_ | with_reducible refine wpAny_loadPart_at hx ?_ | with_reducible refine hcls.at ?_ | wp_step)
  intro h2 tk2 hn2 hs
  exact hq h2 tk2 (fun b o hb ho => (hs.2 b hb).trans ho) hn2
end
section
variable {X : Cx} {pins : List (Addr × Obj)} {σ : L2.St} {H : Hp} {s : Shared} {a C dx : Addr} {f : Str} {y : V} {u : Value} {fs : List (Str × V)} {Q : Unit → Shared → Prop} {E : Value → Shared → Prop} {A : Around}
theorem gst_new (T : OxC X.K C) (I : Inv X pins σ H s) (ea : H a = some (exo a C none)) (hno : findIn X.K (.ref C) f = some none) (ry : RelV y u)
    (h : ∀ dx s2, H dx = none → dx ≠ a → Inv X pins σ (upd (upd H dx (exd dx [(f, y)])) a (exo a C (some dx))) s2 → Q () s2) : wpAny (model X.prog X.w) A (setAttr (.ref a) f u) Q E s := by
  obtain ⟨t1, ho⟩ := exo_at I.hok ea
  obtain ⟨hp, g, d, t, os⟩ := s
  refine set_plain I.kIn (ox := { cls := .ref C, dict := none, data := .fields #[.ref t1, .none, .none, .none, .bool false, .none] }) (od := none) ⟨ho, rfl, rfl, trivial⟩ T.sa ?_
  refine ox_new T I.kIn ho hno (fun h2 tk2 dx k dn dne hx hn => ?_)
  have fr : H dx = none := I.hok.fresh dn
  have nd : ∀ {b : Addr} {o : Obj}, hp.get? b = some o → b ≠ dx := fun {b o} q => Nat.ne_of_lt (Nat.lt_of_lt_of_le (Heap.lt_size q) dn)
  have na : ∀ {b : Addr}, H b = none → b ≠ a := fun {b} n z => by
    rw [z, ea] at n
    cases n
  have U : Un X.fs [] H (upd (upd H dx (exd dx [(f, y)])) a (exo a C (some dx))) hp h2 :=
    { keep := fun b o q n _ _ => k b o (na n) q
      slot := fun b o q n _ _ => ⟨o.slots, k b o (na n) q⟩
      free := fun b o q n _ => (upd_ne (na n)).trans ((upd_ne (nd q)).trans n)
      there := fun b o q _ => by
        by_cases hb : b = a
        · exact ⟨_, by rw [hb]; exact hx⟩
        · exact ⟨o, k b o hb q⟩
      tups := fun b xs q => (upd_ne (at_ne ea q exo_tup)).trans ((upd_ne (ne_of_none q fr)).trans q)
      frzs := fun b o v q => (upd_ne (at_ne ea q exo_frz)).trans ((upd_ne (ne_of_none q fr)).trans q)
      tbls := fun b ps q => ⟨#[], ((upd_ne (at_ne ea q exo_tbl)).trans ((upd_ne (ne_of_none q fr)).trans q)).trans (by simp)⟩ }
  refine h dx _ fr dne (I.un (t' := tk2) U fun b o q => ?_)
  by_cases hb : b = a
  · subst hb
    rw [upd_same] at q
    cases q
    exact exo_ok hx
  · rw [upd_ne hb] at q
    by_cases hd : b = dx
    · subst hd
      rw [upd_same] at q
      cases q
      exact exd_ok hn (relO_put (fs := []) ry fun g => True.intro)
    · rw [upd_ne hd] at q
      refine (I.hok b o q).stay (fun c v hc z => k c v ?_ z) (fun c hc => ?_) (fun c xs hc => ?_)
      · rcases hc with hc | hc
        · rw [hc]; exact hb
        · exact at_ne ea hc exo_own
      · exact (upd_ne (at_ne ea hc exo_own)).trans ((upd_ne (ne_of_none hc fr)).trans hc)
      · exact (upd_ne (at_ne ea hc exo_tup)).trans ((upd_ne (ne_of_none hc fr)).trans hc)
theorem gst_old (T : OxC X.K C) (I : Inv X pins σ H s) (ea : H a = some (exo a C (some dx))) (ed : H dx = some (exd dx fs)) (hl : fs.length ≤ 900) (hno : findIn X.K (.ref C) f = some none) (ry : RelV y u)
    (h : ∀ s2, Inv X pins σ (upd H dx (exd dx ((f, y) :: fs))) s2 → Q () s2) : wpAny (model X.prog X.w) A (setAttr (.ref a) f u) Q E s := by
  obtain ⟨t1, ho⟩ := exo_at I.hok ea
  obtain ⟨mA, hns, rel⟩ := exd_at I.hok ed
  have hw := within_of rel
  obtain ⟨hp, g, d, t, os⟩ := s
  obtain ⟨oD, _, _, hoD, _, _⟩ := hns.count hw
  refine set_plain I.kIn (ox := { cls := .ref C, dict := some dx, data := .fields #[.ref t1, .none, .none, .none, .bool false, .none] }) (od := some oD) ⟨ho, rfl, rfl, hoD⟩ T.sa ?_
  refine ox_old T I.kIn ho hns hw (by rw [List.length_map]; omega) hno (fun h2 tk2 k hn => ?_)
  have hd : ∃ o, h2.get? dx = some o := let ⟨o, _, _, e, _⟩ := hn; ⟨o, e⟩
  exact h _ (I.write (t' := tk2) (x := dx) (e := dx) (o := exd dx ((f, y) :: fs)) (by rw [ed]; exact True.intro) (.inl rfl) k hd (exd_ok hn (relO_put ry rel)))
end
def tGst (K : PySem.W.Frag) (f : Str) (to te : TE) : TS := fun D σ H => te σ H fun y H1 => to σ H1 fun x H2 => ∃ a C : Addr, x = .ref a ∧ OxC K C ∧ findIn K (.ref C) f = some none ∧
  ((H2 a = some (exo a C none) ∧ ∀ dx, H2 dx = none → dx ≠ a → D.nx σ (upd (upd H2 dx (exd dx [(f, y)])) a (exo a C (some dx)))) ∨
    ∃ (dx : Addr) (fs : List (Str × V)), H2 a = some (exo a C (some dx)) ∧ H2 dx = some (exd dx fs) ∧ fs.length ≤ 900 ∧ D.nx σ (upd H2 dx (exd dx ((f, y) :: fs))))
section
variable {X : Cx} {o e : Expr} {es : List Expr} {to te : TE} {ta : TA} {f : Str} {p p' p1 p2 pos : Pos}
theorem ps_gst (ho : PE X o to) (he : PE X e te) (hs : swapsWith e (some (.Attribute o f p')) pos.line X.env = pure false := by rfl) : PS X (.Assign [.Attribute o f p'] e pos) (tGst X.K f to te) := by
  refine ⟨fun pins s σ H D I h => plainObj_wpAny_Assign_Attribute (thn (he.run pins s σ H _ I h) fun v s1 ⟨y, H1, I1, r1, q1⟩ => thn (ho.run pins s1 σ H1 _ I1 q1) fun u s2 ⟨x, H2, I2, r2, a, C, ex, T, hno, q⟩ => ?_) hs⟩
  subst ex
  obtain rfl : u = Value.ref a := r2
  rcases q with ⟨ea, q⟩ | ⟨dx, fs, ea, ed, hl, q⟩
  · exact gst_new T I2 ea hno r1 fun dx s3 n ne J => ⟨σ, _, J, q dx n ne⟩
  · exact gst_old T I2 ea ed hl hno r1 fun s3 J => ⟨σ, _, J, q⟩
theorem pmk_gx {CX : CXT} {x : Str} {C fI : Addr} {k : Nat} {fd : FuncData} {ps : List Str} {sp : Sp} (T : OxC X.K C) (iC : findIn X.K (.ref C) "__init__" = some (some (.ref fI))) (tI : typeIn X.K (.ref fI) = some (.type "function"))
    (F1 : TS.FnOk X.prog X.w X.K X.mg X.base CX k fI fd ps sp) (hr : TS.Room (k + 1) X.A) (hb : Binds X.K fd ps []) (hx : Passes CX X (fun _ _ _ => False)) (hg : Gl X x) (hm : X.mg x = some (.ref C)) (ha : PA X (e :: es) ta)
    (hdb : (x == ("__debug__" : Str)) = false := by decide) (he : starEach (e :: es) X.env = (false, eval e X.env) :: starEach es X.env := by rfl) (hpl : (backTo pos (starEach es X.env)).any (·.1) = false := by rfl) :
    PMk X (.Call (.Name x p) (e :: es) [] pos) (tMkO C sp [] ta) := by
  intro pins s σ H Q I h
  obtain ⟨B, hB, ini, _⟩ := T.bas
  refine wpAny_Call_Name_kw (ld_glob I hg hm ?_ hdb)
  refine callWith_K (h₀ := X.base) I.ok.mod.kin T.kC (thn (ha.run pos pins s σ H _ I h) fun us s1 ⟨vs, H1, I1, r1, hz, q1⟩ => ⟨I1.kIn, ?_⟩) he hpl
  show wpAny _ _ (call (.ref C) us) _ _ _
  obtain ⟨hp, g, dr, tk, os⟩ := s1
  obtain ⟨nm, N, qn, bs, bm, hdct, sn, sub, ab, col, dd, k0, k1, k2, k3, k5, hC, hT⟩ := excInit_of I1.kIn ini
  have hsz : hp.objs.size ≤ hp.objs.size + 1 := Nat.le_succ _
  have hn : H1 (hp.objs.size + 1) = none := I1.hok.fresh hsz
  have hq := q1 (hp.objs.size + 1) hn
  rw [List.append_nil] at hq
  have kk : ∀ b o, hp.get? b = some o → ((hp.push (kdv_tup us)).push (HandSPX.excO C hp.objs.size)).get? b = some o := fun b o z => Heap.get?_push_of_some _ (Heap.get?_push_of_some _ z)
  have hget : ((hp.push (kdv_tup us)).push (HandSPX.excO C hp.objs.size)).get? (hp.objs.size + 1) = some (HandSPX.excO C hp.objs.size) := by heap_get
  have I2 : Inv X pins σ (upd H1 (hp.objs.size + 1) (exo (hp.objs.size + 1) C none)) ⟨(hp.push (kdv_tup us)).push (HandSPX.excO C hp.objs.size), g, dr, tk, os⟩ :=
    I1.laid (t' := tk) (a := hp.objs.size + 1) (o := exo (hp.objs.size + 1) C none) (h' := (hp.push (kdv_tup us)).push (HandSPX.excO C hp.objs.size)) kk hsz (exo_ok hget)
  have r2 : Vals (V.ref (hp.objs.size + 1) :: vs) (Value.ref (hp.objs.size + 1) :: us) := .cons rfl r1
  have hl : (Value.ref (hp.objs.size + 1) :: us ++ []).length = ps.length := by
    rw [List.append_nil]
    exact (r2.length.symm.trans (F1.len _ _ _ _ hq))
  have hus : us.length ≤ sizeLine := by
    rw [← Paired.length r1, sizeLine_eq]
    omega
  refine wpAny_call (HandSPX.call_own hB.base hT hC (looks_findIn I1.kIn iC) (fun self => bind_fn I1.kIn self tI) hus
    (codeAny_mono (F1.run _ X.stack _ _ ⟨Value.ref (hp.objs.size + 1) :: us, []⟩ (Value.ref (hp.objs.size + 1) :: us) _ _ (fun _ _ _ => False) (hr.make C us []) (I2.env0.make C us []) (by
      have := hb _ (Value.ref (hp.objs.size + 1) :: us) I2.kIn hl
      rwa [List.append_nil] at this) r2 hq) fun r s2 hq2 => ?_))
  cases r with
  | error er => exact hx pins σ _ _ er s2 I2 hq2
  | ok fl =>
    cases fl with
    | ret u =>
      obtain ⟨v, H2, os2, bare2, un2, hok2, rv, ev, d, fs, ea, ed, hd1, q2⟩ := hq2
      subst ev
      obtain ⟨h2, g2, d2, t2, os3⟩ := s2
      exact ⟨rv, mk_end (raises_own T.exC T.tyC) I1 hsz kk un2 hok2 os2 bare2 ea ed hd1 q2⟩
    | next => exact False.elim hq2
    | brk => exact False.elim hq2
    | cont => exact False.elim hq2
end
def spX (C : Addr) (ns : List Str) : Sp := fun vs H Q _ => ∃ (a : Addr) (ws : List V), vs = .ref a :: ws ∧ ws.length = ns.length ∧ H a = some (exo a C none) ∧
  ∀ (dx : Addr) (H' : Hp), H dx = none → dx ≠ a → H' a = some (exo a C (some dx)) → H' dx = some (exd dx (ns.zip ws).reverse) → (∀ b, b ≠ a → b ≠ dx → H' b = H b) → Q .non H'
def IniS (X : Cx) (C : Addr) (ns : List Str) (ss : List Stmt) (j : Nat) : Prop := ∃ t, PSs X ss t ∧ ∀ (D : Ends) (a dx : Addr) (ws : List V) (σ : L2.St) (H0 H : Hp), σ[0]? = some (some (.ref a)) → (∀ i w, ws[i]? = some w → σ[i + 1]? = some (some w)) → ws.length = ns.length → dx ≠ a →
  H a = some (exo a C (some dx)) → H dx = some (exd dx ((ns.zip ws).take j).reverse) → (∀ b, b ≠ a → b ≠ dx → H b = H0 b) →
  (∀ H', H' a = some (exo a C (some dx)) → H' dx = some (exd dx (ns.zip ws).reverse) → (∀ b, b ≠ a → b ≠ dx → H' b = H0 b) → D.nx σ H') → t D σ H
section
variable {X : Cx} {C : Addr} {ns : List Str} {ss : List Stmt} {j : Nat} {f : Str} {p p' p1 pos : Pos}
theorem inis_nil (h : j = ns.length) : IniS X C ns [] j := by
  refine ⟨_, pss_nil, fun D a dx ws σ H0 H h0 hw hl hne ea ed hb k => ?_⟩
  refine k H ea ?_ hb
  rw [h, List.take_of_length_le (by rw [List.length_zip]; omega)] at ed
  exact ed
theorem zip_take {ws : List V} {w : V} (hn : ns[j]? = some f) (hw : ws[j]? = some w) : (ns.zip ws).take (j + 1) = (ns.zip ws).take j ++ [(f, w)] := by
  rw [List.take_add_one]
  have : (ns.zip ws)[j]? = some (f, w) := by rw [List.getElem?_zip_eq_some]; exact ⟨hn, hw⟩
  rw [this]; rfl
theorem inis_cons (T : OxC X.K C) (hno : findIn X.K (.ref C) f = some none) (hn : ns[j]? = some f) (hs0 : PE X (.Name "self" p) (tVar 0)) (hs1 : PE X (.Name f p1) (tVar (j + 1))) (hj : ns.length ≤ 900) (r : IniS X C ns ss (j + 1))
    (hs : swapsWith (.Name f p1) (some (.Attribute (.Name "self" p) f p')) pos.line X.env = pure false := by rfl) : IniS X C ns (.Assign [.Attribute (.Name "self" p) f p'] (.Name f p1) pos :: ss) j := by
  obtain ⟨t, pt, ht⟩ := r
  refine ⟨_, pss_cons (ps_gst hs0 hs1 hs) pt, fun D a dx ws σ H0 H h0 hw hl hne ea ed hb k => ?_⟩
  have hjl : j < ns.length := (List.getElem?_eq_some_iff.mp hn).1
  have hwj : ws[j]? = some (ws[j]'(by omega)) := List.getElem?_eq_getElem _
  refine ⟨ws[j]'(by omega), hw j _ hwj, .ref a, h0, a, C, rfl, T, hno, .inr ⟨dx, _, ea, ed, by simp; omega, ?_⟩⟩
  refine ht D a dx ws σ H0 _ h0 hw hl hne ((upd_ne (Ne.symm hne)).trans ea) ?_ (fun b h1 h2 => (upd_ne h2).trans (hb b h1 h2)) k
  rw [upd_same, zip_take hn hwj, List.reverse_append]
  rfl
theorem init_body {N : List Str} {sp0 : Unit} (T : OxC X.K C) (hno : findIn X.K (.ref C) f = some none) (hn : ns[0]? = some f) (hs0 : PE X (.Name "self" p) (tVar 0)) (hs1 : PE X (.Name f p1) (tVar 1)) (r : IniS X C ns ss 1)
    (hs : swapsWith (.Name f p1) (some (.Attribute (.Name "self" p) f p')) pos.line X.env = pure false := by rfl) :
    ∃ t, PSs X (.Assign [.Attribute (.Name "self" p) f p'] (.Name f p1) pos :: ss) t ∧ ∀ (D : Ends) (a : Addr) (ws : List V) (σ : L2.St) (H : Hp), σ[0]? = some (some (.ref a)) → (∀ i w, ws[i]? = some w → σ[i + 1]? = some (some w)) → ws.length = ns.length → H a = some (exo a C none) →
      (∀ (dx : Addr) (H' : Hp), H dx = none → dx ≠ a → H' a = some (exo a C (some dx)) → H' dx = some (exd dx (ns.zip ws).reverse) → (∀ b, b ≠ a → b ≠ dx → H' b = H b) → D.nx σ H') → t D σ H := by
  obtain ⟨t, pt, ht⟩ := r
  refine ⟨_, pss_cons (ps_gst hs0 hs1 hs) pt, fun D a ws σ H h0 hw hl ea k => ?_⟩
  have hjl : 0 < ns.length := (List.getElem?_eq_some_iff.mp hn).1
  have hwj : ws[0]? = some (ws[0]'(by omega)) := List.getElem?_eq_getElem _
  refine ⟨ws[0]'(by omega), hw 0 _ hwj, .ref a, h0, a, C, rfl, T, hno, .inl ⟨ea, fun dx hd hne => ?_⟩⟩
  refine ht D a dx ws σ H _ h0 hw hl hne upd_same ?_ (fun b h1 h2 => (upd_ne h1).trans (upd_ne h2)) (fun H' k1 k2 k3 => k dx H' hd hne k1 k2 k3)
  rw [upd_ne hne, upd_same]
  have z := zip_take (j := 0) hn hwj
  rw [z]
  rfl
end
theorem start_get {N : List Str} {vs : List V} {i : Nat} {v : V} (h : vs[i]? = some v) : (L2.start N vs)[i]? = some (some v) := by
  unfold L2.start
  have hl : i < vs.length := (List.getElem?_eq_some_iff.mp h).1
  rw [List.getElem?_append_left (by simpa using hl), List.getElem?_map, h]; rfl
theorem funD_ini {P : Program} {w : World} {K : PySem.W.Frag} {mg : Str → Option Value} {base : Heap} {qual : Str} {params : Arguments} {body : List Stmt} {scope : Scope} {f C : Addr} {fd : FuncData} {N ps ns : List Str} (Fd : FunD K "__init__" qual params body scope [] [] f fd) (S : FnScope N ps scope) (hps : ps.length = ns.length + 1)
    (hb : ∀ (cdv : Value) (A : Around) (outer : List Env) (s : Shared) (H : Hp) (E : XK), ∃ t, PSs (cxOf (L2.CX P w) P w K mg base N qual scope f cdv A outer s H E) body t ∧ ∀ (D : Ends) (a : Addr) (ws : List V) (σ : L2.St) (H : Hp), σ[0]? = some (some (.ref a)) → (∀ i w, ws[i]? = some w → σ[i + 1]? = some (some w)) → ws.length = ns.length → H a = some (exo a C none) →
      (∀ (dx : Addr) (H' : Hp), H dx = none → dx ≠ a → H' a = some (exo a C (some dx)) → H' dx = some (exd dx (ns.zip ws).reverse) → (∀ b, b ≠ a → b ≠ dx → H' b = H b) → D.nx σ H') → t D σ H) :
    TS.FnOk P w K mg base (L2.CX P w) 1 f fd ps (spX C ns) := by
  refine FnOk.of (k := 0) Fd S (fun vs H Q E h => ?_) (fun cdv A outer s H vs Q E hr h => ?_)
  · obtain ⟨a, ws, rfl, hl, _⟩ := h
    rw [List.length_cons, hl, hps]
  · obtain ⟨t, pt, ht⟩ := hb cdv A outer s H E
    obtain ⟨a, ws, rfl, hl, ea, k⟩ := h
    exact ⟨t, pt, ht _ a ws _ H (start_get rfl) (fun i w hw => start_get (by simpa using hw)) hl ea k⟩
section
variable {M : Gm} {c : Cn M} {W : WX} {X : Cx} {F H : Hp} {σ : L2.St} {δ : Sl}
theorem reps_reverse : ∀ {ds : List D} {vs : List V}, reps M F ds vs → reps M F ds.reverse vs.reverse
  | [], vs, h => by unfold reps at h; subst h; exact reps_nil
  | d :: ds, vs, h => by
    unfold reps at h
    obtain ⟨v, r, rfl, h2, h3⟩ := h
    rw [List.reverse_cons, List.reverse_cons]
    exact reps_append (reps_reverse h3) (reps_cons h2 reps_nil)
theorem Ok.froze {F' : Hp} (ok : Ok c F H σ δ) (g : Same F F') (hs : Same F' H) (htb : Tb M F' H) (hn : ∀ b, c.H0 b ≠ none → F' b = F b) (ho : ∀ (i : Nat) (r : R) (a : Addr), δ[i]? = some (some r) → r.mu = true → σ[i]? = some (some (V.ref a)) → F' a = none) : Ok c F' H σ δ where
  same := hs
  grow := ok.grow.trans g
  nofz := fun b e1 e2 => by rw [hn b e1]; exact ok.nofz b e1 e2
  kept := ok.kept
  ioh := ok.ioh
  tb := htb
  len := ok.len
  slot := fun i r e => by
    obtain ⟨v, e1, e2⟩ := ok.slot i r e
    refine ⟨v, e1, ?_⟩
    cases r with
    | imm d => exact rep_mono g _ _ e2
    | own o =>
      obtain ⟨b, rfl, k1, k2, k3⟩ := e2
      exact ⟨b, rfl, ho i _ b e rfl e1, k2, obAt_mono g rfl k3⟩
    | brw o =>
      obtain ⟨b, rfl, k1, k2, k3⟩ := e2
      exact ⟨b, rfl, ho i _ b e rfl e1, k2, obAt_mono g rfl k3⟩
    | nst tp ps => exact slot_nst g e2
  dist := ok.dist
def sRaise (n k : Nat) (fa : FA) : FS := fun δ => (fa δ).bindS fun ds δ1 => if ds.length = k then .exc ⟨n, ds.reverse⟩ δ1 else .bad
theorem ds_raise {n k j : Nat} {C fI : Addr} {x : Str} {ns ps : List Str} {fd : FuncData} {e : Expr} {es : List Expr} {fa : FA} {p pos pos2 : Pos} (hG : M.G n = some C) (hnm : M.nm n = ns.reverse) (hk : ns.length = k) (T : OxC X.K C) (iC : findIn X.K (.ref C) "__init__" = some (some (.ref fI))) (tI : typeIn X.K (.ref fI) = some (.type "function"))
    (F1 : TS.FnOk X.prog X.w X.K X.mg X.base (L2.CX X.prog X.w) 1 fI fd ps (spX C ns)) (hr : TS.Room j X.A) (h2 : 2 ≤ j) (hk2 : k ≤ 100) (hb : Binds X.K fd ps []) (hc : X.calm = true) (tk : Takes X W) (hg : Gl X x) (hm : X.mg x = some (.ref C)) (ha : DA M W X (e :: es) fa)
    (hdb : (x == ("__debug__" : Str)) = false := by decide) (he : starEach (e :: es) X.env = (false, eval e X.env) :: starEach es X.env := by rfl) (hpl : (backTo pos (starEach es X.env)).any (·.1) = false := by rfl) :
    DS M W X (.Raise (some (.Call (.Name x p) (e :: es) [] pos)) none pos2) (sRaise n k fa) := by
  obtain ⟨ta, pa, ha⟩ := ha
  refine ⟨_, ps_raise hc tk (pmk_gx T iC tI F1 (hr.mono h2) hb (passes_call tk fun _ _ _ _ z => z.elim) hg hm pa hdb he hpl), fun c F H σ δ E ok post => ?_⟩
  refine ha c F H σ δ _ ok (PostS.ofE post fun ds δ1 vs F1 H1 _ s ok1 rr post => ?_)
  split at post
  · rename_i hl
    have hvl := reps_length rr
    refine ⟨by omega, fun a han => ?_⟩
    refine ⟨a, vs, by rw [List.append_nil], by omega, upd_same, fun dx H2 hd hne k1 k2 k3 => ⟨rfl, dx, _, k1, k2, ?_, ?_⟩⟩
    · rw [upd_ne hne] at hd; exact hd
    · rw [upd_ne hne] at hd
      have eG : upd (del H2 a) dx (.xd (ns.zip vs).reverse) = upd H1 dx (.xd (ns.zip vs).reverse) := by
        funext b
        by_cases hb : b = dx
        · rw [hb, upd_same, upd_same]
        · rw [upd_ne hb, upd_ne hb]
          by_cases hba : b = a
          · rw [hba, del_same, han]
          · rw [del_ne hba, k3 b hba hb, upd_ne hba]
      rw [eG]
      have hf1 : F1 dx = none := ok1.f hd
      have g1 : Same F1 (upd F1 dx (.xd (ns.zip vs).reverse)) := fun b o q => by rw [upd_ne (ne_of_none q hf1)]; exact q
      refine post (.ref C) (some dx) (upd F1 dx (.xd (ns.zip vs).reverse)) _ σ g1 ((ok1.alloc hd).froze g1 (fun b o q => ?_) ((ok1.tb.alloc hd).frz upd_same rfl) (fun b h0 => ?_) (fun i r a2 q1 q2 q3 => ?_)) ⟨C, hG, rfl, .inr ⟨dx, _, rfl, upd_same, ?_, ?_⟩⟩
      · by_cases hb : b = dx
        · subst hb; rw [upd_same] at q ⊢; exact q
        · rw [upd_ne hb] at q ⊢; exact ok1.same b o q
      · by_cases hb : b = dx
        · exact absurd (hb ▸ ok1.h0 hd) h0
        · exact upd_ne hb
      · obtain ⟨b, o, e1, e2, e3, _⟩ := (ok1.alloc hd (o := .xd (ns.zip vs).reverse)).mus q1 q2
        rw [q3] at e1
        cases e1
        have hb : a2 ≠ dx := fun z => ok1.fresh hd i r q1 q2 (by rw [q3, z])
        rw [upd_ne hb]; exact e2
      · rw [hnm, List.map_reverse, List.map_fst_zip (by omega)]
      · rw [List.map_reverse, List.map_snd_zip (by omega)]
        exact reps_mono g1 _ _ (reps_reverse rr)
  · exact post.elim
end
end
end TS

namespace TS
open PySem L2 PySem.W PySem.Calls PyProof.Rows
noncomputable section
structure Cau where
  i : Nat
  a : Addr
  cls : Value
  d : Option Addr
  x : XD
def Zx (M : Gm) (q : Cau) (F : Hp) (σ : L2.St) : Prop := σ[q.i]? = some (some (.ref q.a)) ∧ xAt M F q.x q.cls q.d F
theorem xAt_mono {M : Gm} {F F' H H' : Hp} {x : XD} {cls : Value} {d : Option Addr} (g : Same F F') (h : xAt M F x cls d H) : xAt M F' x cls d H' := by
  obtain ⟨C, h1, h2, h3⟩ := h
  refine ⟨C, h1, h2, ?_⟩
  rcases h3 with h3 | ⟨dd, fs, k1, k2, k3, k4⟩
  · exact .inl h3
  · exact .inr ⟨dd, fs, k1, g _ _ k2, k3, reps_mono g _ _ k4⟩
theorem Zx.mono {M : Gm} {q : Cau} {F F' : Hp} {σ : L2.St} (h : Zx M q F σ) (g : Same F F') : Zx M q F' σ := ⟨h.1, xAt_mono g h.2⟩
def DEz (M : Gm) (W : WX) (X : Cx) (q : Cau) (e : Expr) (f : FE) : Prop := ∃ t, PE X e t ∧ ∀ (c : Cn M) F H σ δ Q, Zx M q F σ → Ok c F H σ δ → Post c W F σ (ρR c σ) (f δ) Q → t σ H Q
def DIz (M : Gm) (W : WX) (X : Cx) (q : Cau) (e : Expr) (f : FD) : Prop := ∃ t, PE X e t ∧ ∀ (c : Cn M) F H σ δ Q, Zx M q F σ → Ok c F H σ δ → Post c W F σ (ρD c) (f δ) Q → t σ H Q
def DTz (M : Gm) (W : WX) (X : Cx) (q : Cau) (e : Expr) (f : FT) : Prop := ∃ t, PT X e t ∧ ∀ (c : Cn M) F H σ δ Q, Zx M q F σ → Ok c F H σ δ → Post c W F σ ρT (f δ) Q → t σ H Q
def DWz (M : Gm) (W : WX) (X : Cx) (q : Cau) (e : Expr) (f : FT) : Prop := ∃ t, PW X e t ∧ ∀ (c : Cn M) F H σ δ Q, Zx M q F σ → Ok c F H σ δ → Post c W F σ ρT (f δ) Q → t σ H Q
def DAz (M : Gm) (W : WX) (X : Cx) (q : Cau) (es : List Expr) (f : FA) : Prop := ∃ t, PA X es t ∧ ∀ (c : Cn M) F H σ δ Q, Zx M q F σ → Ok c F H σ δ → Post c W F σ (ρA c) (f δ) Q → t σ H Q
section
variable {M : Gm} {c : Cn M} {W : WX} {X : Cx} {q : Cau} {e a b : Expr} {es : List Expr} {pos p : Pos}
theorem z_i {f : FD} (h : DI M W X e f) : DIz M W X q e f := let ⟨t, p, h⟩ := h; ⟨t, p, fun c F H σ δ Q _ ok post => h c F H σ δ Q ok post⟩
theorem z_toE {f : FD} (h : DIz M W X q e f) : DEz M W X q e (toE f) := by
  obtain ⟨t, p, h⟩ := h
  exact ⟨t, p, fun c F H σ δ Q z ok post => h c F H σ δ Q z ok (Post.bind post fun d δ1 v F1 H1 _ s ok1 r post => post.ok ok1 r)⟩
theorem z_nil : DAz M W X q [] aNil := ⟨_, pa_nil, fun c F H σ δ Q _ ok post => post.ok ok reps_nil⟩
theorem z_cons {f : FD} {g : FA} (h : DIz M W X q e f) (h' : DAz M W X q es g) (hs : starEach (e :: es) X.env = (false, eval e X.env) :: starEach es X.env := by rfl) : DAz M W X q (e :: es) (aCons f g) := by
  obtain ⟨t, p, h⟩ := h
  obtain ⟨t', p', h'⟩ := h'
  exact ⟨_, pa_cons p p' hs, fun c F H σ δ Q z ok post => h c F H σ δ _ z ok (Post.bind post fun d δ1 v F1 H1 _ s ok1 r post => h' c F1 H1 σ δ1 _ (z.mono s) ok1 (Post.bind post fun ds δ2 vs F2 H2 _ s2 ok2 rs post => post.ok ok2 (reps_cons (rep_mono s2 _ _ r) rs)))⟩
theorem z_lst {fa : FA} (h : DAz M W X q es fa) : DEz M W X q (.List es pos) (fLst fa) := by
  obtain ⟨t, p, h⟩ := h
  refine ⟨_, pe_lst p, fun c F H σ δ Q z ok post => h c F H σ δ _ z ok (Post.bind post fun ds δ1 vs F1 H1 _ s ok1 rs post => ?_)⟩
  split at post
  · rename_i hl
    refine ⟨by rw [reps_length rs, sizeLine_eq]; exact hl, fun r hr => ?_⟩
    obtain ⟨o1, o2⟩ := new_list ok1 hr rs
    exact post.ok o1 o2
  · exact post.elim
theorem z_not {f : FD} (h : DIz M W X q a f) : DIz M W X q (.UnaryOp .Not a pos) (fNotV f) := by
  obtain ⟨t, p, h⟩ := h
  refine ⟨_, pe_not p, fun c F H σ δ Q z ok post => h c F H σ δ _ z ok (Post.bind post fun d δ1 v F1 H1 _ s ok1 r post => ?_)⟩
  split at post
  · rename_i b0 _
    have e : v = .bl b0 := by unfold ρD rep at r; exact r
    subst e
    exact ⟨b0, rfl, post.ok ok1 (rep_bl' _)⟩
  · exact post.elim
theorem z_one {op} {f : FE} (h : DEz M W X q a f) : DEz M W X q (.BoolOp op [a] pos) f := let ⟨t, p, h⟩ := h; ⟨t, pe_one p, h⟩
theorem z_and {f : FD} {g : FE} {rest : List Expr} (h : DIz M W X q a f) (h' : DEz M W X q (.BoolOp .And (b :: rest) pos) g) : DEz M W X q (.BoolOp .And (a :: b :: rest) pos) (fAndV f g) := by
  obtain ⟨t, p, h⟩ := h
  obtain ⟨t', p', h'⟩ := h'
  refine ⟨_, pe_and p p', fun c F H σ δ Q z ok post => h c F H σ δ _ z ok (Post.bind post fun d δ1 v F1 H1 _ s ok1 r post => ?_)⟩
  split at post
  · have e : v = .bl true := by unfold ρD rep at r; exact r
    subst e
    exact ⟨true, rfl, h' c F1 H1 σ δ1 Q (z.mono s) ok1 post⟩
  · have e : v = .bl false := by unfold ρD rep at r; exact r
    subst e
    exact ⟨false, rfl, post.ok ok1 rr_bl⟩
  · exact post.elim
theorem DWz.pt {f : FT} (h : DWz M W X q e f) : DTz M W X q e f := let ⟨t, p, h⟩ := h; ⟨t, p.pt, h⟩
end
def xFld (j : Nat) (x : XD) : FD := fun δ => match x.vs[j]? with
  | some d => .ok d δ
  | none => .bad
def xIs (tab : Nat → Option Bool) (x : XD) : FD := fun δ => match x.vs, tab x.c with
  | _ :: _, some b => .ok (.bl b) δ
  | _, _ => .bad
def xFldT (tab : Nat → Option Nat) (x : XD) : FD := fun δ => match tab x.c with
  | some j => xFld j x δ
  | none => .bad
structure XqC (K : PySem.W.Frag) (C : Addr) : Prop where
  xf : XfC K C
  cl : (clsIn K C).isSome = true
  ha : findIn K (.ref C) "__class__" = some (some (.builtin "object.__class__"))
  hn : specialIn K (.builtin "object.__class__") "__get__" = some (some (.builtin "getset_descriptor.__get__"))
  ht : takesIn K (.builtin "object.__class__") = some true
  hm : mroIn K C (.type "object") = some true
def rXis (K : PySem.W.Frag) (C a : Addr) : List V → Hp → VK → Prop := fun xs H Q => ∃ (c : V) (cv : Value) (b : Bool), xs = [.ref a, c] ∧ ClsV c cv ∧ kitOne K (.ref C) cv = some b ∧ Q (.bl b) H
def rXisT (K : PySem.W.Frag) (C a : Addr) : List V → Hp → VK → Prop := fun xs H Q => ∃ (tp : Addr) (cs : List V) (us : List Value) (b : Bool), xs = [.ref a, .ref tp] ∧ H tp = some (.tup cs) ∧ Paired ClsV cs us ∧ kitAny K (.ref C) us = some b ∧ Q (.bl b) H
section
variable {X : Cx} {a C : Addr} {oe : Obj} {pn : List (Addr × Obj)} {d : Option Addr}
theorem inst_caught {pins : List (Addr × Obj)} {σ : L2.St} {H : Hp} {s : Shared} {dd : Addr} {fs : List (Str × V)} (I : Inv (X.suite a ((a, oe) :: pn)) pins σ H s) (hz : Zc (.ref C) (some dd) oe) (hf : ∃ vs, oe.data = .fields vs) (hd : H dd = some (.xd fs)) : ∃ od, InstAt s.heap a oe C (some od) := by
  obtain ⟨ha, _⟩ := I.pin (a, oe) (List.mem_append_left _ List.mem_cons_self)
  obtain ⟨vs, hv⟩ := hf
  have hx : ObjOk X.prog X.w H s.heap dd (.xd fs) := I.hok dd _ hd
  obtain ⟨mA, hns, hr⟩ := hx
  obtain ⟨od, ho, hl⟩ := lookIn_ns hns
  exact ⟨od, ha, hz.1, by unfold notCls; rw [hv] <;> rfl, by rw [hz.2]; exact ho⟩
theorem call_xis (T : XqC X.K C) {dd : Addr} (hz : Zc (.ref C) (some dd) oe) (hf : ∃ vs, oe.data = .fields vs) : CallR (X.suite a ((a, oe) :: pn)) (.builtin "isinstance") (fun xs H Q => (∃ fs, H dd = some (.xd fs)) ∧ (rXis X.K C a xs H Q ∨ rXisT X.K C a xs H Q)) := by
  intro pins s σ H xs us Q I r h
  obtain ⟨⟨fs, hd⟩, h⟩ := h
  obtain ⟨od, J⟩ := inst_caught I hz hf hd
  have Z := fun gt hgt => kitx_exc (K := X.K) (C := C) (x := a) (ox := oe) (od := some od) (gt := gt) T.cl T.xf.ga hgt T.xf.exC T.ha T.hn T.ht T.hm
  rcases h with ⟨c, cv, b, rfl, hcv, e, q⟩ | ⟨tp, cs, us2, b, rfl, hT, k, e, q⟩
  · obtain ⟨u1, u2, rfl, r1, r2⟩ := vals2 r
    cases (show u1 = Value.ref a from r1)
    have ec := hcv.eq r2
    subst ec
    exact kia_one (Z _ T.xf.gg) I.kIn J e (fun z => nomatch z) fun tk => ⟨.bl b, H, I.tok tk, rfl, q⟩
  · obtain ⟨u1, u2, rfl, r1, r2⟩ := vals2 r
    cases (show u1 = Value.ref a from r1)
    cases (show u2 = Value.ref tp from r2)
    obtain ⟨_, its, rv, o, h1, h2, n, h3⟩ := (show ObjOk X.prog X.w H s.heap tp (.tup cs) from I.hok tp _ hT)
    have e3 := ClsV.all k rv
    subst e3
    obtain ⟨oc, od2, dt, sl⟩ := o
    simp only at h2 h3
    subst h2 h3
    exact kia_tup (Z _ T.xf.gg) I.kIn J h1 e (fun z => nomatch z) fun tk => ⟨.bl b, H, I.tok tk, rfl, q⟩
end
section
variable {M : Gm} {W : WX} {X : Cx} {a : Addr} {oe : Obj} {pn : List (Addr × Obj)} {i : Nat} {cls : Value} {d : Option Addr} {x : XD} {e c1 : Expr} {pos p : Pos}
theorem pe_nev {Y : Cx} {e : Expr} : PE Y e (fun _ _ _ => False) := ⟨fun _ _ _ _ _ _ h => h.elim⟩
theorem reps_at {F : Hp} {ds : List D} {fs : List (Str × V)} {j : Nat} {dv : D} {n : Str} (r : reps M F ds (fs.map (·.2))) (h : ds[j]? = some dv) (hn : (fs.map (·.1))[j]? = some n) (hx : n ∉ (fs.map (·.1)).take j) : ∃ v, fs.lookup n = some v ∧ rep M F dv v := by
  induction fs generalizing ds j with
  | nil => simp at hn
  | cons p fs ih =>
    obtain ⟨m, v⟩ := p
    cases ds with
    | nil => simp at h
    | cons d ds =>
      rw [List.map_cons, reps_cons_iff] at r
      cases j with
      | zero =>
        simp at h hn
        subst h hn
        exact ⟨v, by simp [List.lookup], r.1⟩
      | succ j =>
        simp only [List.map_cons, List.getElem?_cons_succ, List.take_succ_cons, List.mem_cons, not_or] at h hn hx
        obtain ⟨w, e1, e2⟩ := ih r.2 h hn hx.2
        refine ⟨w, ?_, e2⟩
        rw [List.lookup_cons]
        have : (n == m) = false := by simpa using hx.1
        rw [this]
        exact e1
theorem z_fld {n : Str} {tab : Nat → Option Nat} (hT : ∀ k j C, tab k = some j → M.G k = some C → XqC X.K C ∧ findIn X.K (.ref C) n = some none ∧ (M.nm k)[j]? = some n ∧ n ∉ (M.nm k).take j) (hz : Zc cls d oe) (hf : ∃ vs, oe.data = .fields vs)
    (he : PE (X.suite a ((a, oe) :: pn)) e (tVar i)) (hb : attributeBase e n X.env (eval e X.env) = eval e X.env := by rfl) : DIz M W (X.suite a ((a, oe) :: pn)) ⟨i, a, cls, d, x⟩ (.Attribute e n pos) (xFldT tab x) := by
  by_cases hc : ∃ j C, tab x.c = some j ∧ M.G x.c = some C
  · obtain ⟨j, C, h1, h2⟩ := hc
    obtain ⟨T, hno, hn, hnt⟩ := hT _ _ _ h1 h2
    refine ⟨_, pe_xf T.xf hno hz hf he hb, fun c F H σ δ Q z ok post => ?_⟩
    obtain ⟨z1, C', k1, k2, k3⟩ := z
    have eC : C' = C := Option.some.inj (k1.symm.trans h2)
    subst eC
    unfold xFldT at post
    rw [h1] at post
    unfold xFld at post
    simp only at post
    refine ⟨_, z1, rfl, k2, ?_⟩
    rcases k3 with k3 | ⟨dd, fs, e1, e2, e3, e4⟩
    · have k3 : x.vs = [] := k3
      rw [k3] at post
      exact post.elim
    · cases q : x.vs[j]? with
      | none => rw [q] at post; exact post.elim
      | some dv =>
        rw [q] at post
        have e3 : fs.map (·.1) = M.nm x.c := e3
        obtain ⟨v, l1, l2⟩ := reps_at e4 q (by rw [e3]; exact hn) (by rw [e3]; exact hnt)
        exact ⟨dd, fs, v, e1, ok.same _ _ e2, l1, post.ok ok l2⟩
  · refine ⟨_, pe_nev, fun c F H σ δ Q z ok post => ?_⟩
    obtain ⟨z1, C', k1, k2, k3⟩ := z
    unfold xFldT at post
    cases q : tab x.c with
    | none => rw [q] at post; exact post.elim
    | some j => exact (hc ⟨j, C', q, k1⟩).elim
theorem z_isi {tab : Nat → Option Bool} {v : V} {u : Value} (hT : ∀ k b C, tab k = some b → M.G k = some C → XqC X.K C ∧ kitOne X.K (.ref C) u = some b) (hz : Zc cls d oe) (hf : ∃ vs, oe.data = .fields vs) (hg : Gl (X.suite a ((a, oe) :: pn)) "isinstance") (hm : X.mg "isinstance" = none)
    (he : PE (X.suite a ((a, oe) :: pn)) e (tVar i)) (hc : PE (X.suite a ((a, oe) :: pn)) c1 (tC v)) (hv : ClsV v u)
    (hs : starEach [e, c1] X.env = (false, eval e X.env) :: starEach [c1] X.env := by rfl) (hs2 : starEach [c1] X.env = (false, eval c1 X.env) :: starEach [] X.env := by rfl) (hpl : (backTo pos (starEach [c1] X.env)).any (·.1) = false := by rfl) :
    DIz M W (X.suite a ((a, oe) :: pn)) ⟨i, a, cls, d, x⟩ (.Call (.Name "isinstance" p) [e, c1] [] pos) (xIs tab x) := by
  by_cases hcc : ∃ b C dd, tab x.c = some b ∧ M.G x.c = some C ∧ cls = .ref C ∧ d = some dd
  · obtain ⟨b, C, dd, h1, h2, h3, h4⟩ := hcc
    subst h3 h4
    obtain ⟨T, hk⟩ := hT _ _ _ h1 h2
    refine ⟨_, pe_callB (call_xis T hz hf) hg hm bt_isinstance (pa_cons he (pa_cons hc pa_nil hs2) hs) (by decide) (by decide) hs hpl, fun c F H σ δ Q z ok post => ?_⟩
    obtain ⟨z1, C', k1, k2, k3⟩ := z
    unfold xIs at post
    rw [h1] at post
    rcases k3 with k3 | ⟨dd', fs, e1, e2, e3, e4⟩
    · have k3 : x.vs = [] := k3
      rw [k3] at post
      exact post.elim
    · cases e1
      split at post
      · rename_i b' _ _ eb
        cases eb
        exact ⟨_, z1, ⟨fs, ok.same _ _ e2⟩, .inl ⟨v, u, b, rfl, hv, hk, post.ok ok (rep_bl' _)⟩⟩
      · exact post.elim
  · refine ⟨_, pe_nev, fun c F H σ δ Q z ok post => ?_⟩
    obtain ⟨z1, C', k1, k2, k3⟩ := z
    unfold xIs at post
    split at post
    · rename_i b _ e1 e2
      rcases k3 with k3 | ⟨dd', fs, y1, _⟩
      · have k3 : x.vs = [] := k3
        rw [k3] at e1; cases e1
      · exact (hcc ⟨_, C', dd', e2, k1, k2, y1⟩).elim
    · exact post.elim
end
def PostZ (c : Cn M) (q : Cau) (F : Hp) (r : SR) (E : Ends) : Prop := match r with
  | .nx δ' => ∀ F' H' σ', Same F F' → Zx M q F' σ' → Ok c F' H' σ' δ' → E.nx σ' H'
  | .rt r δ' => ∀ v F' H' σ', Same F F' → Ok c F' H' σ' δ' → repR c F' H' σ' δ' r v → E.rt v H'
  | _ => False
abbrev WN : WX := fun _ _ _ _ => False
def DSz (M : Gm) (X : Cx) (q : Cau) (s : Stmt) (g : FS) : Prop := ∃ t, PS X s t ∧ ∀ (c : Cn M) F H σ δ E, Zx M q F σ → Ok c F H σ δ → PostZ c q F (g δ) E → t E σ H
def DSsz (M : Gm) (X : Cx) (q : Cau) (s : List Stmt) (g : FS) : Prop := ∃ t, PSs X s t ∧ ∀ (c : Cn M) F H σ δ E, Zx M q F σ → Ok c F H σ δ → PostZ c q F (g δ) E → t E σ H
section
variable {M : Gm} {c : Cn M} {X : Cx} {q : Cau} {F F1 H : Hp} {σ : L2.St} {δ : Sl}
theorem PostZ.shift {r : SR} {E : Ends} (h : PostZ c q F r E) (g : Same F F1) : PostZ c q F1 r E := by
  cases r with
  | nx δ' => exact fun F' H' σ' s => h F' H' σ' (g.trans s)
  | rt r δ' => exact fun v F' H' σ' s => h v F' H' σ' (g.trans s)
  | bk δ' => exact h
  | ct δ' => exact h
  | exc x δ' => exact h
  | bad => exact h
theorem zs_one {s : Stmt} {f : FS} (h : DSz M X q s f) : DSsz M X q [s] f := let ⟨t, p, h⟩ := h; ⟨t, pss_one p, h⟩
theorem zs_cons {s : Stmt} {ss : List Stmt} {f g : FS} (h : DSz M X q s f) (h' : DSsz M X q ss g) : DSsz M X q (s :: ss) (sSeq f g) := by
  obtain ⟨t, p, h⟩ := h
  obtain ⟨t', p', h'⟩ := h'
  refine ⟨_, pss_cons p p', fun c F H σ δ E z ok post => h c F H σ δ _ z ok ?_⟩
  unfold sSeq at post
  cases k : f δ with
  | nx δ1 => rw [k] at post; exact fun F' H' σ' s z' ok' => h' c F' H' σ' δ1 E z' ok' (PostZ.shift (show PostZ c q F (g δ1) E from post) s)
  | rt r δ1 => rw [k] at post; exact post
  | bk δ1 => rw [k] at post; exact post
  | ct δ1 => rw [k] at post; exact post
  | exc x δ1 => rw [k] at post; exact post
  | bad => rw [k] at post; exact post
theorem z_set {j : Nat} {x : Str} {e : Expr} {pos pos' : Pos} {f : FE} (hj : j ≠ q.i) (hN : X.N.Nodup) (hi : X.N[j]? = some x) (hx : Loc X.env.scope x) (he : DEz M WN X q e f) (hs : swapsWith e (some (.Name x pos')) pos.line X.env = pure false := by rfl) (hf : X.fn x = true ∨ X.env.scope.names.lookup x = some .local := by first | exact .inl rfl | exact .inr rfl | assumption) :
    DSz M X q (.Assign [.Name x pos'] e pos) (sAsg f (tName j)) := by
  obtain ⟨t, p, he⟩ := he
  refine ⟨_, ps_set hN hi hx p hs hf, fun c F H σ δ E z ok post => he c F H σ δ _ z ok ?_⟩
  unfold sAsg at post
  cases k : f δ with
  | bad => rw [k] at post; exact post
  | exc y δ1 => rw [k] at post; exact post.elim
  | ok r δ1 =>
    rw [k] at post
    have post : PostZ c q F (tName j r δ1) E := post
    intro v F' H' s ok' rr
    have z' : Zx M q F' (σ.set j (some v)) := by
      refine ⟨?_, (z.mono s).2⟩
      rw [List.getElem?_set_ne hj]; exact z.1
    unfold tName at post
    cases r with
    | imm d => exact post F' H' _ s z' (ok'.setI j rr)
    | own o => exact post F' H' _ s z' (ok'.setO j rr)
    | brw o => exact post.elim
    | nst _ _ => exact post.elim
end
def wAsL (K : PySem.W.Frag) (i : Nat) (Wout : WX) (D : Ends) : List (Value × (Addr → Value → Option Addr → TS)) → WX
  | [] => Wout
  | (c, ts) :: r => fun cls d σ H => ∃ b, exmOne K cls c = some b ∧ (b = true → ∀ a, H a = none → ts a cls d { nx := fun σ' H' => D.nx (σ'.set i none) H', rt := D.rt, bk := fun σ' H' => D.bk (σ'.set i none) H', ct := fun σ' H' => D.ct (σ'.set i none) H' } (σ.set i (some (.ref a))) H) ∧ (b = false → wAsL K i Wout D r cls d σ H)
inductive HdsA (X : Cx) (n : Str) : List ExceptHandler → List (Value × (Addr → Value → Option Addr → TS)) → Prop
  | nil : HdsA X n [] []
  | cons {x : Str} {c : Value} {ts : Addr → Value → Option Addr → TS} {b₀ : Stmt} {suite : List Stmt} {np pos' : Pos} {hds : List ExceptHandler} {l : List (Value × (Addr → Value → Option Addr → TS))} (hc : Names X x c)
      (hsu : ∀ (a : Addr) (oe : Obj) (cls : Value) (d : Option Addr) (pn : List (Addr × Obj)), Zc cls d oe → (∃ vs, oe.data = .fields vs) → PSs (X.suite a ((a, oe) :: pn)) (b₀ :: suite) (ts a cls d)) (r : HdsA X n hds l) :
      HdsA X n (.ExceptHandler (some (.Name x np)) (some n) (b₀ :: suite) pos' :: hds) ((c, ts) :: l)
section
variable {X : Cx} {n : Str} {i : Nat} {body : List Stmt} {h₀ : ExceptHandler} {hds : List ExceptHandler} {l : List (Value × (Addr → Value → Option Addr → TS))} {pos : Pos} {tb : WX → TS} {Wout : WX}
theorem ps_try_asL (hs : X.stack = X.env :: X.outer) (hf : X.env.frame = some X.env.locals) (hN : X.N.Nodup) (hi : X.N[i]? = some n) (hln : X.env.kindOf n = some .local) (tk : Takes X Wout)
    (hb : ∀ (W : WX) (pn : List (Addr × Obj)) (xe : Value → Shared → Prop), Takes (X.tr pn xe) W → PassesOwn (model X.prog X.w) X.A X.env xe → PSs (X.tr pn xe) body (tb W))
    (hh : HdsA X n (h₀ :: hds) l) : PS X (.Try body (h₀ :: hds) [] [] pos) (fun D σ H => tb (wAsL X.K i Wout D l) D σ H) := by
  refine ⟨fun pins s σ H D I h => ?_⟩
  have ok := I.ok
  have hloc : Loc X.env.scope n := .inl hln
  have hfr : X.A.frames = some (X.env :: X.outer) := by rw [ok.frames, hs]
  refine wpAny_Try_except (wpAny_mono ((hb (wAsL X.K i Wout D l) (X.pn ++ pins) (fun e s1 => wpAny (model X.prog X.w) X.A (noteFrame e X.env) (fun _ s2 => wpAny (model X.prog X.w) X.A (setFlight e none) (fun _ s3 =>
    wpAny (model X.prog X.w) X.A (handleBy e X.env (h₀ :: hds)) (SP X pins D) X.xe s3) X.xe s2) X.xe s1) (fun u s' xx => ?_) PassesOwn.looking).run [] s σ H D (I.toTry _) h) (fun f s1 hsp => ?_) (fun e s1 he => he))
  · obtain ⟨a, B, sI, pins', σ', H', cls, d, rfl, J', nb, up, sky, na, os, ag, w⟩ := xx
    have J : Inv X pins σ' H' sI := J'.ofTry ok
    have sky' : Sky B (X.env :: X.outer) a (Zc cls d) X.env.locals s'.heap := by rw [← hs]; exact sky
    show wpAny (model X.prog X.w) X.A (noteFrame (.ref a) X.env) _ _ _
    refine Sky.land Zc.steady hfr hf sky' fun h3 fl3 up3 => ?_
    have J3 : Inv X pins σ' H' { s' with heap := h3 } := J.landed nb fl3.1 (up.trans up3) os ag
    obtain ⟨oe3, vs3, he3, hz3, hd3⟩ := fl3.there
    have nfr : a ∉ frs (X.env :: X.outer) := fun hm => by
      obtain ⟨_, o', e', hnf⟩ := fl3.2.2.1.mem hm
      rw [he3] at e'
      cases e'
      exact hnf _ hd3
    have nL : a ≠ X.env.locals := fun z => nfr (List.mem_filterMap.mpr ⟨X.env, List.mem_cons_self, by rw [hf, z]⟩)
    have nF : a ∉ X.fs := fun hm => by
      obtain ⟨e, he, k⟩ := List.mem_filterMap.mp hm
      exact nfr (List.mem_filterMap.mpr ⟨e, List.mem_cons_of_mem _ he, k⟩)
    have S3 := J3.suite he3 hd3 na nL nF
    have go : ∀ {hds' : List ExceptHandler} {l' : List (Value × (Addr → Value → Option Addr → TS))}, HdsA X n hds' l' → wAsL X.K i Wout D l' cls d σ' H' →
        wpAny (model X.prog X.w) X.A (handleBy (.ref a) X.env hds') (SP X pins D) X.xe { s' with heap := h3 } := by
      intro hds' l' hk
      induction hk with
      | nil =>
        intro w
        refine wpAny_handleBy_nil ?_
        obtain ⟨k1, k2, k3, oe, vs, T, oT, ts', he, hz, hd, h1, hr⟩ := id fl3
        unfold PySem.passOn
        refine wpAny_bind (wpAny_field he hd h1 ?_)
        rw [if_neg (show ¬ ((Value.ref T == Value.none) = true) from by simp)]
        have fin : wpAny (model X.prog X.w) X.A (setFlight (.ref a) X.env.frame) (fun _ s4 => wpAny (model X.prog X.w) X.A (throw (.ref a) : Sem Flow) (SP X pins D) X.xe s4) X.xe { s' with heap := h3 } := by
          rw [hf]
          refine HandSPX.setFlight_upZ fl3 fun h4 hh4 up4 => wpAny_throw (tk _ _ ?_)
          exact ⟨a, B, sI, pins, σ', H', cls, d, rfl, J, nb, (up.trans up3).trans up4, .inr (.inr (by rw [hs]; exact hh4)), na, os, ag, w⟩
        first
          | exact wpAny_bind (wpAny_pure (wpAny_bind fin))
          | exact wpAny_bind fin
      | @cons x c ts b₀ suite np pos' hds2 l2 hc hsu r ih =>
        intro w
        obtain ⟨b, hb1, hyes, hno⟩ := w
        refine wpAny_handleBy_cons (codeAny_handlers_test ?_) (by intro k; cases k)
        have LT : Looks (model X.prog X.w) h3 (typeOf (.ref a)) cls := fun A Q E s k q => wpAny_typeOf_ref (k _ _ he3) (by rw [hz3.1]; exact q)
        have LM := exm_one (M := model X.prog X.w) (J3.kIn) LT hb1
        have test : ∀ {Q : Value → Shared → Prop} {E : Value → Shared → Prop}, Q c { s' with heap := h3 } → wpAny (model X.prog X.w) (X.A.mark (some (.ref a))) (eval (.Name x np) X.env) Q E { s' with heap := h3 } := fun {Q E} k => by
          obtain ⟨hg, hdbg, hm | ⟨hm, hv, hnn⟩⟩ := hc
          · exact ld_glob (X := X.suite a ((a, oe3) :: (X.pn ++ pins))) S3 hg hm k hdbg
          · exact ld_blt (X := X.suite a ((a, oe3) :: (X.pn ++ pins))) S3 hg hm hv k hnn hdbg
        refine test (LM.here ?_)
        cases b with
        | true =>
          refine codeAny_handlers_suite_as ?_
          refine HandSPX.lands_againZ fl3 fun h4 fl4 up4 => ?_
          have J4 : Inv X pins σ' H' { s' with heap := h4 } := J.landed nb fl4.1 ((up.trans up3).trans up4) os ag
          obtain ⟨oe4, vs4, he4, hz4, hd4⟩ := fl4.there
          have S4 := J4.suite he4 hd4 na nL nF
          refine store_ok (X := X.suite a ((a, oe4) :: (X.pn ++ pins))) (v := .ref a) S4 hN hi hloc rfl (fun s5 S5 => ?_) (.inr hln)
          refine wpAny_mono ((hsu a oe4 cls d (X.pn ++ pins) hz4 ⟨_, hd4⟩).run [] s5 _ H' _ S5 (hyes rfl a na)) (fun f s6 hsp => ?_) (fun _ _ z => False.elim z)
          have end_ : ∀ {σ6 : L2.St} {H6 : Hp} {Q : Shared → Prop}, Inv (X.suite a ((a, oe4) :: (X.pn ++ pins))) [] σ6 H6 s6 → (∀ s7, Inv X pins (σ6.set i none) H6 s7 → Q s7) →
              wpAny (model X.prog X.w) X.A (do bindName X.env n .none; unbindBehindTheSuite X.env n pos') (fun _ s7 => Q s7) X.xe s6 := fun {σ6 H6 Q} S6 hq => gone_ok (S6.unsuite ok) hN hi hln hq
          cases f with
          | next => obtain ⟨σ6, H6, S6, q6⟩ := hsp; exact end_ S6 fun s7 J7 => ⟨_, _, J7, q6⟩
          | brk => obtain ⟨σ6, H6, S6, q6⟩ := hsp; exact end_ S6 fun s7 J7 => ⟨_, _, J7, q6⟩
          | cont => obtain ⟨σ6, H6, S6, q6⟩ := hsp; exact end_ S6 fun s7 J7 => ⟨_, _, J7, q6⟩
          | ret u => obtain ⟨v6, σ6, H6, S6, r6, q6⟩ := hsp; exact end_ S6 fun s7 J7 => ⟨_, _, _, J7, r6, q6⟩
        | false =>
          show wpAny _ X.A (handleBy (.ref a) X.env hds2) _ _ _
          exact ih (hno rfl)
    exact go hh w
  · cases f with
    | next => obtain ⟨σ', H', J', k⟩ := hsp; exact wpAny_execs_nil ⟨σ', H', J'.ofTry ok, k⟩
    | brk => obtain ⟨σ', H', J', k⟩ := hsp; exact ⟨σ', H', J'.ofTry ok, k⟩
    | cont => obtain ⟨σ', H', J', k⟩ := hsp; exact ⟨σ', H', J'.ofTry ok, k⟩
    | ret u => obtain ⟨v, σ', H', J', r, k⟩ := hsp; exact ⟨v, σ', H', J'.ofTry ok, r, k⟩
end
section
variable {M : Gm} {c : Cn M} {X : Cx} {q : Cau} {F H : Hp} {σ : L2.St} {δ : Sl}
theorem Ok.put (ok : Ok c F H σ δ) (i : Nat) (o : Option V) : Ok c F H (σ.set i o) (δ.set i none) where
  same := ok.same
  grow := ok.grow
  nofz := ok.nofz
  kept := ok.kept
  ioh := ok.ioh
  tb := ok.tb
  len := by simp [ok.len]
  slot := fun j r e => by
    rcases getElem?_set_some e with ⟨rfl, e1, _⟩ | ⟨hn, e1⟩
    · cases e1
    · rw [List.getElem?_set_ne hn]; exact ok.slot j r e1
  dist := fun j k r1 r2 w hjk e1 e2 m1 m2 s1 s2 => by
    rcases getElem?_set_some e1 with ⟨rfl, z, _⟩ | ⟨hn, q1⟩
    · cases z
    · rcases getElem?_set_some e2 with ⟨rfl, z, _⟩ | ⟨hn2, q2⟩
      · cases z
      · rw [List.getElem?_set_ne hn] at s1
        rw [List.getElem?_set_ne hn2] at s2
        exact ok.dist j k r1 r2 w hjk q1 q2 m1 m2 s1 s2
def hNil : XD → Option FS := fun _ => none
def hCons (tab : Nat → Option Bool) (g : XD → FS) (hs : XD → Option FS) : XD → Option FS := fun y => match tab y.c with
  | some true => some (g y)
  | some false => hs y
  | none => some fun _ => .bad
inductive ClA (M : Gm) (X : Cx) (n : Str) (i : Nat) : List ExceptHandler → (XD → Option FS) → Prop
  | nil : ClA M X n i [] hNil
  | cons {x : Str} {C0 : Value} {tab : Nat → Option Bool} {g : XD → FS} {b₀ : Stmt} {suite : List Stmt} {np pos' : Pos} {hds : List ExceptHandler} {hs : XD → Option FS} (hc : Names X x C0) (hT : ∀ k b C, tab k = some b → M.G k = some C → exmOne X.K (.ref C) C0 = some b)
      (hsu : ∀ (a : Addr) (oe : Obj) (cls : Value) (d : Option Addr) (pn : List (Addr × Obj)) (y : XD), Zc cls d oe → (∃ vs, oe.data = .fields vs) → DSsz M (X.suite a ((a, oe) :: pn)) ⟨i, a, cls, d, y⟩ (b₀ :: suite) (g y)) (r : ClA M X n i hds hs) :
      ClA M X n i (.ExceptHandler (some (.Name x np)) (some n) (b₀ :: suite) pos' :: hds) (hCons tab g hs)
theorem clA_ok {n : Str} {i : Nat} {hds : List ExceptHandler} {hs : XD → Option FS} (h : ClA M X n i hds hs) : ∃ l, HdsA X n hds l ∧ ∀ (c : Cn M) (Wout : WX) (D : Ends) (x : XD) (δ1 : Sl) (cls : Value) (d : Option Addr) (F H : Hp) (σ : L2.St), Ok c F H σ δ1 → xAt M F x cls d H →
    (match hs x with
      | some g => i < δ1.length ∧ PostS c Wout F (match g (δ1.set i none) with | .nx δ2 => .nx (δ2.set i none) | .rt r δ2 => .rt r δ2 | _ => .bad) D
      | none => Wout cls d σ H) → wAsL X.K i Wout D l cls d σ H := by
  induction h with
  | nil => exact ⟨[], .nil, fun c Wout D x δ1 cls d F H σ ok xa k => k⟩
  | @cons x C0 tab g b₀ suite np pos' hds hs hc hT hsu r ih =>
    obtain ⟨l, hl, ih⟩ := ih
    refine ⟨(C0, fun a cls d D σ H => ∃ y, ∀ oe pn (hz : Zc cls d oe) (hf : ∃ vs, oe.data = .fields vs), (hsu a oe cls d pn y hz hf).choose D σ H) :: l, .cons hc (fun a oe cls d pn hz hf => ⟨fun pins s σ H D I h => ?_⟩) hl, fun c Wout D y δ1 cls d F H σ ok xa k => ?_⟩
    · obtain ⟨y, h⟩ := h
      exact (hsu a oe cls d pn y hz hf).choose_spec.1.run pins s σ H D I (h oe pn hz hf)
    · obtain ⟨C, e1, e2, e3⟩ := id xa
      unfold hCons at k
      cases q : tab y.c with
      | none =>
        rw [q] at k
        exact k.2.elim
      | some b =>
        refine ⟨b, by rw [e2]; exact hT _ _ _ q e1, fun hb a ha => ⟨y, fun oe pn hz hf => ?_⟩, fun hb => ?_⟩
        · subst hb
          rw [q] at k
          obtain ⟨hi, k⟩ := k
          refine (hsu a oe cls d pn y hz hf).choose_spec.2 c F H _ (δ1.set i none) _ ⟨?_, xAt_mono (Same.refl _) xa⟩ (ok.put i _) ?_
          · show (σ.set i _)[i]? = _
            rw [List.getElem?_set_self (by rw [ok.len]; exact hi)]
          · cases w : g y (δ1.set i none) with
            | nx δ2 => rw [w] at k; exact fun F' H' σ' s z' ok' => k F' H' _ s (ok'.put i none)
            | rt r δ2 => rw [w] at k; exact fun v F' H' σ' s ok' rr => k v F' H' σ' s ok' rr
            | bk δ2 => rw [w] at k; exact k
            | ct δ2 => rw [w] at k; exact k
            | exc z δ2 => rw [w] at k; exact k
            | bad => rw [w] at k; exact k
        · subst hb
          rw [q] at k
          exact ih c Wout D y δ1 cls d F H σ ok xa k
end
end
end TS

namespace TS
open PySem L2 PySem.W
noncomputable section
section
variable {K : PySem.W.Frag}
theorem exc_ok {x : Str} {B : String} (hB : Bas B) (c : (Fx.exc x B).ok K = true) : OxC K (He.ga K x) ∧ XqC K (He.ga K x) ∧ findIn K (.ref (He.ga K x)) "__init__" = some (some (.ref (He.ma K (He.ga K x) "__init__"))) ∧ typeIn K (.ref (He.ma K (He.ga K x) "__init__")) = some (.type "function") := by
  obtain ⟨c1, c⟩ := He.ba c
  obtain ⟨c2, c⟩ := He.ba c
  obtain ⟨c3, c⟩ := He.ba c
  obtain ⟨c4, c⟩ := He.ba c
  obtain ⟨c5, c⟩ := He.ba c
  obtain ⟨c6, c⟩ := He.ba c
  obtain ⟨c7, c⟩ := He.ba c
  obtain ⟨c8, c⟩ := He.ba c
  obtain ⟨c9, c⟩ := He.ba c
  obtain ⟨c10, c⟩ := He.ba c
  obtain ⟨c11, c⟩ := He.ba c
  obtain ⟨c12, c⟩ := He.ba c
  obtain ⟨c13, c⟩ := He.ba c
  obtain ⟨c14, c15⟩ := He.ba c
  obtain ⟨cd, k1, k2⟩ := any_some c3
  exact ⟨⟨⟨B, hB, c1, c2⟩, ⟨cd, k1, k2⟩, He.eqO_ok c4, of_decide_eq_true c5, of_decide_eq_true c6, c7⟩,
    ⟨⟨He.eqO_ok c10, He.eqO_ok c11, of_decide_eq_true c5, c3⟩, by rw [k1]; rfl, He.eqO_ok c12, He.eqO_ok c13, of_decide_eq_true c14, of_decide_eq_true c15⟩, He.eqO_ok c8, of_decide_eq_true c9⟩
theorem exm_ok {x y : Str} {b : Bool} (c : (Fx.exm x y b).ok K = true) : exmOne K (.ref (He.ga K x)) (.ref (He.ga K y)) = some b := of_decide_eq_true c
end
end
end TS

namespace TS
open PySem PySem.Spec PyProof.Rows L2
noncomputable section
def tLenSetJ (K : PySem.W.Frag) (ta : TE) : TE := fun σ H Q => ta σ H fun x H1 => ∃ (l : Addr) (ns : List Int), x = .ref l ∧ SqL K H1 l (ns.map V.int) ∧ ns.length ≤ 4000 ∧ Q (.int (ns.eraseDups.length : Nat)) H1
theorem pe_lenSetJ {X : Cx} {a : Expr} {ta : TE} {p p2 q pos : Pos} (hg : Gl X "len") (hm : X.mg "len" = none) (hg2 : Gl X "set") (hm2 : X.mg "set" = none) (ha : PE X a ta) (hc : X.calm = true := by rfl)
    (na : starEach [a] X.env = (false, eval a X.env) :: starEach [] X.env := by rfl) : PE X (.Call (.Name "len" p) [.Call (.Name "set" p2) [a] [] q] [] pos) (tLenSetJ X.K ta) := by
  refine ⟨fun pins s σ H Q I h => ?_⟩
  refine Call_ (ld_blt I hg hm boot_len ?_)
  refine PyProof.Rows.callWith_builtin1 (PyProof.Rows.args_cons ?_ rfl) rfl rfl
  refine Call_ (ld_blt I hg2 hm2 boot_set ?_)
  refine PyProof.Rows.callWith_type1 (PyProof.Rows.args_cons (thn (ha.run pins s σ H _ I h) fun v s1 ⟨x, H1, I1, r1, q1⟩ => PyProof.Rows.args_nil ?_) na) na rfl
  obtain ⟨l, ns, rfl, hq, hl, q1⟩ := q1
  cases r1
  obtain ⟨its, r, pl, hz⟩ := I1.list hq
  have hlen : its.toArray.size = ns.length := by rw [List.size_toArray, ← r.length, List.length_map]
  refine call_set_list (I1.ok.hd hc) pl.isList (by simpa using RZ.intsAre_vals r) (by rw [hlen]; unfold scanBound; omega) fun h' tk hS hk => ?_
  refine PyProof.Rows.args_nil ?_
  rw [hlen, PySem.W.oss_met, PySem.W.oss_dups] at hS
  obtain ⟨o, es, ep, t, ho, hex, hd, _, _, _, hf, hn⟩ := hS
  have I2 : Inv X pins σ H1 { s1 with heap := h', toks := tk } := I1.kept fun b o e => hk b o (Heap.lt_size e) e
  have hle : ns.eraseDups.length ≤ ns.length := by rw [← PySem.W.oss_dups]; exact PySem.W.oss_len ns
  exact call_len_set ho hex hd hf (by rw [hn] <;> omega) ⟨.int ns.eraseDups.length, H1, I2.tok _, ⟨_, by rw [hn]⟩, q1⟩
def fLenSet (f : FD) : FD := fun δ => (f δ).bind fun d δ => match d with
  | .lst ds => (match intsD ds with
    | some ns => if ns.length ≤ 4000 then .ok (.int (ns.eraseDups.length : Nat)) δ else .bad
    | none => .bad)
  | _ => .bad
theorem di_lenSet {M : Gm} {W : WX} {X : Cx} {a : Expr} {p p2 q pos : Pos} {f : FD} (hc : X.calm = true) (hg : Gl X "len") (hm : X.mg "len" = none) (hg2 : Gl X "set") (hm2 : X.mg "set" = none) (h : DP M W X a f) (hK : X.K = M.K := by rfl)
    (na : starEach [a] X.env = (false, eval a X.env) :: starEach [] X.env := by rfl) : DI M W X (.Call (.Name "len" p) [.Call (.Name "set" p2) [a] [] q] [] pos) (fLenSet f) := by
  obtain ⟨t, pp, h⟩ := h
  refine ⟨_, pe_lenSetJ hg hm hg2 hm2 pp hc na, fun c F H σ δ Q ok post => h c F H σ δ _ ok (Post.bind post fun d δ1 v F1 H1 _ s1 ok1 r post => ?_)⟩
  split at post
  · split at post
    · rename_i ds ns hn
      split at post
      · rename_i hl
        obtain ⟨a, vs, rfl, h2, h3⟩ := prep_lst ok1.same r
        have ev := intsD_v h3 hn
        subst ev
        exact ⟨a, ns, rfl, by rw [hK]; exact SqL.of h2, hl, post.ok ok1 (rep_int' _)⟩
      · exact post.elim
    · exact post.elim
  · exact post.elim
end
end TS

namespace TS
open PySem L2
noncomputable section
abbrev FX := Sl → Res (List R)
def fxNil : FX := fun δ => .ok [] δ
def fxCons (f : FE) (g : FX) : FX := fun δ => (f δ).bind fun r δ1 => match r with
  | .brw _ => .bad
  | .nst _ _ => .bad
  | r => (g δ1).bind fun rs δ2 => .ok (r :: rs) δ2
def repM {M : Gm} (c : Cn M) (F H : Hp) (σ : St) (δ : Sl) : R → V → Prop
  | .nst _ _, _ => False
  | .imm d, v => repR c F H σ δ (.imm d) v
  | .own d, v => repR c F H σ δ (.own d) v
  | .brw d, v => repR c F H σ δ (.brw d) v
def repXs {M : Gm} (c : Cn M) (F H : Hp) (σ : St) (δ : Sl) : List R → List V → Prop
  | [], vs => vs = []
  | r :: rs, vs => ∃ v ws, vs = v :: ws ∧ repM c F H σ δ r v ∧ repXs c F H σ δ rs ws ∧ (r.mu = true → ∀ (i : Nat) (r' : R), rs[i]? = some r' → r'.mu = true → ws[i]? ≠ some v)
def DX (M : Gm) (W : WX) (X : Cx) (es : List Expr) (f : FX) : Prop := ∃ t, PA X es t ∧ ∀ (c : Cn M) F H σ δ Q, Ok c F H σ δ → Post c W F σ (fun F H δ rs vs => repXs c F H σ δ rs vs) (f δ) Q → t σ H Q
section
variable {M : Gm} {c : Cn M} {W : WX} {X : Cx} {F H : Hp} {σ : St} {δ : Sl}
theorem dx_nil : DX M W X [] fxNil := ⟨_, pa_nil, fun c F H σ δ Q ok post => post.ok ok rfl⟩
theorem repXs_unguard {a : Addr} {u : HO} {hn : NT u} (h0 : c.H0 a = none) : ∀ {rs : List R} {vs : List V}, repXs (c.guard a u hn) F H σ δ rs vs → repXs c F H σ δ rs vs ∧ ∀ (i : Nat) (r' : R), rs[i]? = some r' → r'.mu = true → vs[i]? ≠ some (V.ref a)
  | [], vs, h => ⟨h, fun i r' e => by simp at e⟩
  | r :: rs, vs, h => by
    obtain ⟨v, ws, rfl, h1, h2, h3⟩ := h
    obtain ⟨k1, k2⟩ := repXs_unguard h0 h2
    have hr : repM c F H σ δ r v ∧ (r.mu = true → v ≠ V.ref a) := by
      cases r with
      | imm d => exact ⟨h1, fun z => by cases z⟩
      | brw o => exact h1.elim
      | nst tp ps => exact h1.elim
      | own o =>
        obtain ⟨b, rfl, l1, l2, l3, l4⟩ := h1
        have hba : b ≠ a := fun z => by
          have : (c.guard a u hn).H0 a = some u := if_pos rfl
          rw [z, this] at l2; cases l2
        have l2' : c.H0 b = none := by
          have : (c.guard a u hn).H0 b = c.H0 b := if_neg hba
          rw [← this]; exact l2
        exact ⟨⟨b, rfl, l1, l2', l3, l4⟩, fun _ z => by cases z; exact hba rfl⟩
    refine ⟨⟨v, ws, rfl, hr.1, k1, h3⟩, fun i r' e m => ?_⟩
    cases i with
    | zero =>
      simp at e
      subst e
      intro z
      simp at z
      exact hr.2 m z
    | succ i => exact k2 i r' (by simpa using e) m
theorem dx_cons {a : Expr} {es : List Expr} {f : FE} {g : FX} (ha : DE M W X a f) (hb : DX M W X es g) (h1 : starEach (a :: es) X.env = (false, eval a X.env) :: starEach es X.env := by rfl) : DX M W X (a :: es) (fxCons f g) := by
  obtain ⟨t, p, ha⟩ := ha
  obtain ⟨t', p', hb⟩ := hb
  refine ⟨_, pa_cons p p' h1, fun c F H σ δ Q ok post => ha c F H σ δ _ ok (Post.bind post fun r δ1 v F1 H1 _ s1 ok1 rr post => ?_)⟩
  cases r with
  | brw o => exact post.elim
  | nst _ _ => exact post.elim
  | imm d =>
    refine hb c F1 H1 σ δ1 _ ok1 (Post.bind post fun rs δ2 ws F2 H2 _ s2 ok2 rr' post => ?_)
    exact post.ok ok2 ⟨v, ws, rfl, rep_mono s2 _ _ rr, rr', fun z => by cases z⟩
  | own o =>
    obtain ⟨a, rfl, k1, k2, k3, k4⟩ := rr
    obtain ⟨u, hu, hn⟩ := obAt_nt k3
    have okg := ok1.guard k1 k2 hu hn k4
    have f0 : c.F0 a = none := by
      cases z : c.F0 a with
      | none => rfl
      | some q => rw [ok1.grow a q z] at k1; cases k1
    have un : ∀ {F2 H2 : Hp} {δ2 : Sl}, Same F1 F2 → Ok (c.guard a u hn) F2 H2 σ δ2 → Ok c F2 H2 σ δ2 ∧ repR c F2 H2 σ δ2 (.own o) (.ref a) := fun {F2 H2 δ2} g ok2 => by
      obtain ⟨q1, q2, q3, q4⟩ := ok2.unguard k2
      exact ⟨q1, a, rfl, q2 f0, k2, obAt_mono g (q3.trans hu.symm) k3, q4⟩
    refine hb (c.guard a u hn) F1 H1 σ δ1 _ okg ?_
    cases q : g δ1 with
    | bad => simp only [q] at post; exact post
    | exc x δ2 => simp only [q] at post; exact fun cls d F2 H2 g ok2 xa => post cls d F2 H2 g (un g ok2).1 xa
    | ok rs δ2 =>
      simp only [q] at post
      intro ws F2 H2 s2 ok2 rr'
      obtain ⟨ok3, ro⟩ := un s2 ok2
      obtain ⟨l1, l2⟩ := repXs_unguard k2 rr'
      exact post _ F2 H2 s2 ok3 ⟨_, ws, rfl, ro, l1, fun _ => l2⟩
def sPar3E (i j l : Nat) (f : FX) : FS := fun δ => (f δ).bindS fun rs δ1 => match rs with
  | [a, b, c] => if i < δ1.length ∧ j < δ1.length then .nx (((δ1.set i (some a)).set j (some b)).set l (some c)) else .bad
  | _ => .bad
end
end
end TS

namespace TS
open PySem PySem.Spec PyProof.Rows L2
noncomputable section
section
variable {X : Cx} {pins : List (Addr × Obj)} {σ : L2.St} {H : Hp} {s : Shared} {a b : Addr} {u r : Value} {d : V} {k : List Key} {A : Around} {E : Value → Shared → Prop}
end
end
end TS
namespace TS
open PySem L2
noncomputable section
inductive Pth where
  | self | fld (j : Nat) | row (j e : Nat)
deriving DecidableEq
inductive NF where
  | d (d : D) | dk (ks : List Key) (ds : List D) | rk (L : List (Key × List D)) | rt (L : List (List Key × List D))
def NF.toD : NF → D
  | .d x => x
  | .dk ks ds => .dK ks ds
  | .rk L => .dK (L.map (·.1)) (L.map fun x => .lst x.2)
  | .rt L => .dT (L.map (·.1)) (L.map fun x => .lst x.2)
structure NS where
  δ : Sl
  n : Nat
  fs : List NF
  al : Option (Nat × Nat)
def immS (δ : Sl) : Bool := δ.all fun x => match x with
  | none => true
  | some (.imm _) => true
  | _ => false
abbrev Adr := Pth → Addr
abbrev Con := Pth → Option HO
def setC {α : Type} (f : Pth → α) (p : Pth) (a : α) : Pth → α := fun q => if q = p then a else f q
@[simp] theorem setC_same {α : Type} (f : Pth → α) (p : Pth) (a : α) : setC f p a p = a := if_pos rfl
theorem setC_ne {α : Type} {f : Pth → α} {p q : Pth} {a : α} (h : q ≠ p) : setC f p a q = f q := if_neg h
section
variable {M : Gm}
structure NBas (c : Cn M) (F H : Hp) : Prop where
  same : Same F H
  grow : Same c.F0 F
  nofz : ∀ b, c.H0 b ≠ none → c.F0 b = none → F b = none
  kept : ∀ b o, c.H0 b = some o → c.io ≠ some b → H b = some o
  ioh : ∀ a, c.io = some a → ∃ u, H a = some u ∧ NT u
  tb : Tb M F H
structure Cells (c : Cn M) (F H : Hp) (adr : Adr) (cont : Con) : Prop where
  at_ : ∀ p o, cont p = some o → H (adr p) = some o
  fr : ∀ p o, cont p = some o → F (adr p) = none
  h0 : ∀ p o, cont p = some o → p ≠ .self → c.H0 (adr p) = none
  inj : ∀ p q o o', cont p = some o → cont q = some o' → adr p = adr q → p = q
  io : c.io = some (adr .self)
  sf : ∃ o, cont .self = some o
  nt : ∀ p o, cont p = some o → NT o
variable {c : Cn M} {F F' H H' : Hp} {adr : Adr} {cont : Con}
theorem NBas.h0 (b : NBas c F H) {p : Addr} (hp : H p = none) : c.H0 p = none := by
  cases e : c.H0 p with
  | none => rfl
  | some o =>
    by_cases hi : c.io = some p
    · obtain ⟨u, e1, _⟩ := b.ioh p hi
      rw [hp] at e1; cases e1
    · rw [b.kept p o e hi] at hp; cases hp
theorem NBas.hn (b : NBas c F H) {p : Addr} (hp : c.H0 p ≠ none) : ∃ u, H p = some u ∧ NT u := by
  by_cases hi : c.io = some p
  · exact b.ioh p hi
  · cases e : c.H0 p with
    | none => exact absurd e hp
    | some o => exact ⟨o, b.kept p o e hi, c.nt p o e⟩
theorem NBas.f (b : NBas c F H) {p : Addr} (hp : H p = none) : F p = none := b.same.free hp
theorem NBas.stp (b : NBas c F H) (st : Stp M F H F' H' none) : NBas c F' H' := by
  have kp : ∀ b o, H b = some o → NT o → H' b = some o := fun b o e n => st.kept b o e n (fun z => by cases z)
  refine ⟨st.same, b.grow.trans st.grow, fun x e1 e2 => ?_, fun x o e1 e2 => kp x o (b.kept x o e1 e2) (c.nt x o e1), fun x e1 => ?_, st.tb⟩
  · obtain ⟨u, k1, k2⟩ := b.hn e1
    exact st.nofz x u k1 k2 (b.nofz x e1 e2)
  · obtain ⟨o, q1, q2⟩ := b.ioh x e1
    exact ⟨o, kp x o q1 q2, q2⟩
theorem Cells.stp (k : Cells c F H adr cont) (st : Stp M F H F' H' none) : Cells c F' H' adr cont := by
  have kp : ∀ b o, H b = some o → NT o → H' b = some o := fun b o e n => st.kept b o e n (fun z => by cases z)
  exact ⟨fun p o e => kp _ _ (k.at_ p o e) (k.nt p o e), fun p o e => st.nofz _ o (k.at_ p o e) (k.nt p o e) (k.fr p o e), k.h0, k.inj, k.io, k.sf, k.nt⟩
theorem Cells.put (k : Cells c F H adr cont) {p : Pth} {o o' : HO} (e : cont p = some o) (hn : NT o' := by rfl) : Cells c F (upd H (adr p) o') adr (setC cont p (some o')) := by
  have other : ∀ q u, q ≠ p → cont q = some u → adr q ≠ adr p := fun q u hq e' z => hq (k.inj q p u o e' e z)
  have back : ∀ q u, setC cont p (some o') q = some u → ∃ u', cont q = some u' := fun q u e' => by
    by_cases z : q = p
    · exact ⟨o, z ▸ e⟩
    · rw [setC_ne z] at e'; exact ⟨u, e'⟩
  refine ⟨fun q u e' => ?_, fun q u e' => ?_, fun q u e' hq => ?_, fun q q' u u' e1 e2 => ?_, k.io, ?_, fun q u e' => ?_⟩
  · by_cases z : q = p
    · subst z; rw [setC_same] at e'; cases e'; exact upd_same
    · rw [setC_ne z] at e'; rw [upd_ne (other q u z e')]; exact k.at_ q u e'
  · obtain ⟨u', z⟩ := back q u e'; exact k.fr q u' z
  · obtain ⟨u', z⟩ := back q u e'; exact k.h0 q u' z hq
  · obtain ⟨v, z⟩ := back q u e1
    obtain ⟨v', z'⟩ := back q' u' e2
    exact k.inj q q' v v' z z'
  · obtain ⟨u, hu⟩ := k.sf
    by_cases z : Pth.self = p
    · exact ⟨o', by rw [← z, setC_same]⟩
    · exact ⟨u, by rw [setC_ne z]; exact hu⟩
  · by_cases z : q = p
    · subst z; rw [setC_same] at e'; cases e'; exact hn
    · rw [setC_ne z] at e'; exact k.nt q u e'
theorem NBas.put (b : NBas c F H) (k : Cells c F H adr cont) {p : Pth} {o o' : HO} (e : cont p = some o) (hn : NT o' := by rfl) : NBas c F (upd H (adr p) o') := by
  refine ⟨fun x u h => ?_, b.grow, b.nofz, fun x u e1 e2 => ?_, fun x e1 => ?_, b.tb.write (k.at_ p o e) (k.nt p o e)⟩
  · have z : x ≠ adr p := fun z => by rw [z, k.fr p o e] at h; cases h
    rw [upd_ne z]; exact b.same x u h
  · have z : x ≠ adr p := fun z => by
      by_cases hs : p = .self
      · subst hs; exact e2 (by rw [z]; exact k.io)
      · rw [z, k.h0 p o e hs] at e1; cases e1
    rw [upd_ne z]; exact b.kept x u e1 e2
  · by_cases z : x = adr p
    · exact ⟨o', by rw [z, upd_same], hn⟩
    · rw [upd_ne z]; exact b.ioh x e1
theorem Cells.new (b : NBas c F H) (k : Cells c F H adr cont) {p : Pth} {a : Addr} {o : HO} (hs : p ≠ .self) (e : cont p = none) (ha : H a = none) (hn : NT o := by rfl) : Cells c F (upd H a o) (setC adr p a) (setC cont p (some o)) := by
  have other : ∀ q u, cont q = some u → adr q ≠ a := fun q u e' z => by rw [← z, k.at_ q u e'] at ha; cases ha
  have ne : ∀ q u, cont q = some u → q ≠ p := fun q u e' z => by rw [z, e] at e'; cases e'
  refine ⟨fun q u e' => ?_, fun q u e' => ?_, fun q u e' hq => ?_, fun q q' u u' e1 e2 h => ?_, ?_, ?_, fun q u e' => ?_⟩
  · by_cases z : q = p
    · subst z; rw [setC_same] at e' ⊢; cases e'; exact upd_same
    · rw [setC_ne z] at e' ⊢; rw [upd_ne (other q u e')]; exact k.at_ q u e'
  · by_cases z : q = p
    · subst z; rw [setC_same]; exact b.f ha
    · rw [setC_ne z] at e' ⊢; exact k.fr q u e'
  · by_cases z : q = p
    · subst z; rw [setC_same]; exact b.h0 ha
    · rw [setC_ne z] at e' ⊢; exact k.h0 q u e' hq
  · by_cases z : q = p
    · by_cases z' : q' = p
      · rw [z, z']
      · rw [z, setC_same, setC_ne z'] at h
        rw [setC_ne z'] at e2
        exact absurd h.symm (other q' u' e2)
    · rw [setC_ne z] at e1 h
      by_cases z' : q' = p
      · rw [z', setC_same] at h
        exact absurd h (other q u e1)
      · rw [setC_ne z'] at e2 h
        exact k.inj q q' u u' e1 e2 h
  · rw [setC_ne (Ne.symm hs)]; exact k.io
  · obtain ⟨u, hu⟩ := k.sf
    exact ⟨u, by rw [setC_ne (Ne.symm hs)]; exact hu⟩
  · by_cases z : q = p
    · subst z; rw [setC_same] at e'; cases e'; exact hn
    · rw [setC_ne z] at e'; exact k.nt q u e'
structure SlI (F : Hp) (σ : St) (δ : Sl) : Prop where
  len : σ.length = δ.length
  at_ : ∀ (i : Nat) (r : R), δ[i]? = some (some r) → ∃ d v, r = .imm d ∧ σ[i]? = some (some v) ∧ rep M F d v
end
def frm (M : Gm) (F H : Hp) : Cn M := ⟨F, str0 H, none, fun _ e => (nomatch e), fun _ _ h => (str0_nt h).2, none, fun _ z => nomatch z⟩
section
variable {M : Gm} {c : Cn M} {F F' H H' : Hp} {σ : St} {δ δ' : Sl} {W : WX} {X : Cx}
theorem SlI.mono (h : SlI (M := M) F σ δ) (g : Same F F') : SlI (M := M) F' σ δ := ⟨h.len, fun i r e => by
  obtain ⟨d, v, h1, h2, h3⟩ := h.at_ i r e
  exact ⟨d, v, h1, h2, rep_mono g _ _ h3⟩⟩
theorem SlI.ok (h : SlI (M := M) F σ δ) (s : Same F H) (t : Tb M F H) : Ok (frm M F H) F H σ δ where
  same := s
  grow := Same.refl _
  nofz := fun _ _ e => e
  kept := fun _ _ e _ => (str0_nt e).1
  ioh := fun _ e => (nomatch e)
  tb := t
  len := h.len
  slot := fun i r e => by
    obtain ⟨d, v, rfl, h2, h3⟩ := h.at_ i r e
    exact ⟨v, h2, h3⟩
  dist := fun i j r r' v _ e _ m => by
    obtain ⟨d, v, rfl, h2, h3⟩ := h.at_ i r e
    cases m
theorem immS_at (h : immS δ = true) {i : Nat} {r : R} (e : δ[i]? = some (some r)) : ∃ d, r = .imm d := by
  unfold immS at h
  rw [List.all_eq_true] at h
  have := h _ (List.mem_of_getElem? e)
  cases r with
  | imm d => exact ⟨d, rfl⟩
  | own o => cases this
  | brw o => cases this
  | nst _ _ => cases this
theorem SlI.back {F0 H0 : Hp} (ok : Ok (frm M F0 H0) F H σ δ) (hi : immS δ = true) : SlI (M := M) F σ δ := ⟨ok.len, fun i r e => by
  obtain ⟨d, rfl⟩ := immS_at hi e
  obtain ⟨v, h1, h2⟩ := ok.slot i _ e
  exact ⟨d, v, rfl, h1, h2⟩⟩
theorem stp_back {F0 H0 : Hp} (ok : Ok (frm M F0 H0) F H σ δ) : Stp M F0 H0 F H none := ⟨ok.grow, fun b o e1 n e2 => ok.nofz b (by show str0 H0 b ≠ none; rw [str0_of e1 n]; exact fun z => nomatch z) e2, fun b o e n _ => ok.kept b o (str0_of e n) (fun z => nomatch z), ok.same, ok.tb⟩
theorem SlI.setI (h : SlI (M := M) F σ δ) {d : D} {v : V} (i : Nat) (r : rep M F d v) : SlI (M := M) F (σ.set i (some v)) (δ.set i (some (.imm d))) := ⟨by simp [h.len], fun j r' e => by
  rcases getElem?_set_some e with ⟨rfl, e1, hl⟩ | ⟨hn, e1⟩
  · cases e1
    exact ⟨d, v, rfl, List.getElem?_set_self (by rw [h.len]; exact hl), r⟩
  · rw [List.getElem?_set_ne hn]
    exact h.at_ j r' e1⟩
end
end
end TS

namespace TS
open PySem L2
noncomputable section
section
variable {M : Gm}
def rowsOk (M : Gm) (F : Hp) (adr : Adr) (cont : Con) (j : Nat) {κ : Type} (mk : List (κ × V) → HO) (L : List (κ × List D)) (v : V) : Prop :=
  v = .ref (adr (.fld j)) ∧ (∃ kvs : List (κ × V), cont (.fld j) = some (mk kvs) ∧ kvs.map (·.1) = L.map (·.1) ∧ ∀ (e : Nat) (kv : κ × V), kvs[e]? = some kv → kv.2 = .ref (adr (.row j e))) ∧
  (∀ (e : Nat) (x : κ × List D), L[e]? = some x → ∃ vs, cont (.row j e) = some (.lst vs) ∧ reps M F x.2 vs) ∧ ∀ e, L.length ≤ e → cont (.row j e) = none
def fldOk (M : Gm) (F : Hp) (adr : Adr) (cont : Con) (j : Nat) : NF → V → Prop
  | .d x, v => rep M F x v
  | .dk ks ds, v => v = .ref (adr (.fld j)) ∧ ∃ kvs : List (Key × V), cont (.fld j) = some (.dK kvs) ∧ kvs.map (·.1) = ks ∧ reps M F ds (kvs.map (·.2))
  | .rk L, v => rowsOk M F adr cont j HO.dK L v
  | .rt L, v => rowsOk M F adr cont j HO.dT L v
structure NK (c : Cn M) (i0 ir : Nat) (F H : Hp) (σ : St) (s : NS) (adr : Adr) (cont : Con) (C dx : Addr) (fvs : List (Str × V)) : Prop where
  bas : NBas c F H
  cel : Cells c F H adr cont
  sl : SlI (M := M) F σ s.δ
  G : M.G s.n = some C
  sf : cont .self = some (.ins C dx fvs)
  nm : fvs.map (·.1) = (M.nm s.n).take s.fs.length
  ln : fvs.length = s.fs.length
  fl : ∀ (j : Nat) (f : NF) (p : Str × V), s.fs[j]? = some f → fvs[j]? = some p → fldOk M F adr cont j f p.2
  no : ∀ j, s.fs.length ≤ j → cont (.fld j) = none ∧ ∀ e, cont (.row j e) = none
  i0 : σ[i0]? = some (some (.ref (adr .self)))
  rn : (s.δ[ir]?).join = none
  al : ∀ j e, s.al = some (j, e) → σ[ir]? = some (some (.ref (adr (.row j e))))
variable {c : Cn M} {i0 ir : Nat} {F F' H H' : Hp} {σ σ' : St} {s : NS} {adr : Adr} {cont : Con} {C dx : Addr} {fvs : List (Str × V)}
theorem rowsOk.mono {κ : Type} {mk : List (κ × V) → HO} {j : Nat} {L : List (κ × List D)} {v : V} (h : rowsOk M F adr cont j mk L v) (g : Same F F') : rowsOk M F' adr cont j mk L v := by
  obtain ⟨h1, h2, h3, h4⟩ := h
  exact ⟨h1, h2, fun e x hx => by
    obtain ⟨vs, k1, k2⟩ := h3 e x hx
    exact ⟨vs, k1, reps_mono g _ _ k2⟩, h4⟩
theorem fldOk.mono {j : Nat} {f : NF} {v : V} (h : fldOk M F adr cont j f v) (g : Same F F') : fldOk M F' adr cont j f v := by
  cases f with
  | d x => exact rep_mono g _ _ h
  | dk ks ds =>
    obtain ⟨h1, kvs, h2, h3, h4⟩ := h
    exact ⟨h1, kvs, h2, h3, reps_mono g _ _ h4⟩
  | rk L => exact rowsOk.mono h g
  | rt L => exact rowsOk.mono h g
theorem NK.step (k : NK c i0 ir F H σ s adr cont C dx fvs) (st : Stp M F H F' H' none) {δ' : Sl} (sl : SlI (M := M) F' σ' δ') (h0 : σ'[i0]? = σ[i0]?) (hr : σ'[ir]? = σ[ir]?) (hn : (δ'[ir]?).join = none) : NK c i0 ir F' H' σ' { s with δ := δ' } adr cont C dx fvs :=
  ⟨k.bas.stp st, k.cel.stp st, sl, k.G, k.sf, k.nm, k.ln, fun j f p e1 e2 => (k.fl j f p e1 e2).mono st.grow, k.no, h0.trans k.i0, hn, fun j e h => hr.trans (k.al j e h)⟩
theorem rowsOk.put {κ : Type} {mk : List (κ × V) → HO} {j j' : Nat} {L : List (κ × List D)} {v : V} {o : Option HO} (h : rowsOk M F adr cont j' mk L v) (hj : j' ≠ j) : rowsOk M F adr (setC cont (.fld j) o) j' mk L v := by
  obtain ⟨h1, ⟨kvs, h2, h3⟩, h4, h5⟩ := h
  refine ⟨h1, ⟨kvs, ?_, h3⟩, fun e x hx => ?_, fun e he => ?_⟩
  · rw [setC_ne (by intro z; cases z; exact hj rfl)]; exact h2
  · obtain ⟨vs, k1, k2⟩ := h4 e x hx
    exact ⟨vs, by rw [setC_ne (by intro z; cases z)]; exact k1, k2⟩
  · rw [setC_ne (by intro z; cases z)]; exact h5 e he
theorem fldOk.put {j j' : Nat} {f : NF} {v : V} {o : Option HO} (h : fldOk M F adr cont j' f v) (hj : j' ≠ j) : fldOk M F adr (setC cont (.fld j) o) j' f v := by
  cases f with
  | d x => exact h
  | dk ks ds =>
    obtain ⟨h1, kvs, h2, h3, h4⟩ := h
    exact ⟨h1, kvs, by rw [setC_ne (by intro z; cases z; exact hj rfl)]; exact h2, h3, h4⟩
  | rk L => exact rowsOk.put h hj
  | rt L => exact rowsOk.put h hj
theorem getElem?_set_cases {α : Type} {l : List α} {i j : Nat} {x y : α} (h : (l.set i x)[j]? = some y) : (i = j ∧ x = y) ∨ (i ≠ j ∧ l[j]? = some y) := by
  rcases getElem?_set_some h with ⟨h1, h2, _⟩ | h
  · exact .inl ⟨h1, h2⟩
  · exact .inr h
theorem NK.putD (k : NK c i0 ir F H σ s adr cont C dx fvs) {j : Nat} {ks : List Key} {ds : List D} {kk : Key} {d : D} {v : V} (hj : s.fs[j]? = some (.dk ks ds)) (hd : rep M F d v) :
    ∃ kvs : List (Key × V), H (adr (.fld j)) = some (.dK kvs) ∧ kvs.length = ds.length ∧ NK c i0 ir F (upd H (adr (.fld j)) (.dK (putK kvs kk v))) σ { s with fs := s.fs.set j (.dk (TS.putD ks ds kk d).1 (TS.putD ks ds kk d).2) } adr (setC cont (.fld j) (some (.dK (putK kvs kk v)))) C dx fvs := by
  have hlt : j < s.fs.length := (List.getElem?_eq_some_iff.mp hj).1
  obtain ⟨p, hp⟩ : ∃ p, fvs[j]? = some p := ⟨fvs[j]'(by rw [k.ln]; exact hlt), List.getElem?_eq_getElem _⟩
  obtain ⟨h1, kvs, h2, h3, h4⟩ := k.fl j _ p hj hp
  obtain ⟨q1, q2⟩ := putD_v hd kk h4
  rw [h3] at q1 q2
  refine ⟨kvs, k.cel.at_ _ _ h2, by have := reps_length h4; simpa using this, k.bas.put k.cel h2, k.cel.put h2, k.sl, k.G, ?_, ?_, ?_, fun j' f p' e1 e2 => ?_, fun j' hj' => ?_, k.i0, k.rn, k.al⟩
  · rw [setC_ne (by intro z; cases z)]; exact k.sf
  · simp only [List.length_set]; exact k.nm
  · simp only [List.length_set]; exact k.ln
  · rcases getElem?_set_cases e1 with ⟨z, z2⟩ | ⟨z, e1⟩
    · subst z; subst z2
      rw [hp] at e2; cases e2
      exact ⟨h1, _, setC_same _ _ _, q1, q2⟩
    · exact (k.fl j' f p' e1 e2).put (Ne.symm z)
  · simp only [List.length_set] at hj'
    obtain ⟨n1, n2⟩ := k.no j' hj'
    refine ⟨?_, fun e => ?_⟩
    · rw [setC_ne (by intro z; cases z; omega)]; exact n1
    · rw [setC_ne (by intro z; cases z)]; exact n2 e
def rowOf (s : NS) : Option (List D) := s.al.bind fun p => (s.fs[p.1]?).bind fun f => match f with
  | .rk L => (L[p.2]?).map (·.2)
  | .rt L => (L[p.2]?).map (·.2)
  | _ => none
theorem NK.row (k : NK c i0 ir F H σ s adr cont C dx fvs) {row : List D} (h : rowOf s = some row) : ∃ j e vs, s.al = some (j, e) ∧ σ[ir]? = some (some (.ref (adr (.row j e)))) ∧ (s.δ[ir]?).join = none ∧ cont (.row j e) = some (.lst vs) ∧ reps M F row vs := by
  obtain ⟨⟨j, e⟩, ha, h⟩ := Option.bind_eq_some_iff.mp h
  obtain ⟨f, hf, h⟩ := Option.bind_eq_some_iff.mp h
  have a1 := k.al j e ha
  have a2 := k.rn
  have hlt : j < s.fs.length := (List.getElem?_eq_some_iff.mp hf).1
  obtain ⟨p, hp⟩ : ∃ p, fvs[j]? = some p := ⟨fvs[j]'(by rw [k.ln]; exact hlt), List.getElem?_eq_getElem _⟩
  have hk := k.fl j f p hf hp
  cases f with
  | d x => cases h
  | dk ks ds => cases h
  | rk L =>
    obtain ⟨x, hx, rfl⟩ := Option.map_eq_some_iff.mp h
    obtain ⟨vs, k1, k2⟩ := hk.2.2.1 e x hx
    exact ⟨j, e, vs, ha, a1, a2, k1, k2⟩
  | rt L =>
    obtain ⟨x, hx, rfl⟩ := Option.map_eq_some_iff.mp h
    obtain ⟨vs, k1, k2⟩ := hk.2.2.1 e x hx
    exact ⟨j, e, vs, ha, a1, a2, k1, k2⟩
end
end
end TS

namespace TS
open PySem L2
noncomputable section
section
variable {M : Gm} {W : WX} {X : Cx} {i0 ir : Nat}
theorem SlI.setSame {F : Hp} {σ : St} {δ : Sl} (h : SlI (M := M) F σ δ) {i : Nat} {d : D} {v : V} (e : σ[i]? = some (some v)) (r : rep M F d v) : SlI (M := M) F σ (δ.set i (some (.imm d))) := by
  have := h.setI i r
  have e2 : σ.set i (some v) = σ := by
    apply List.ext_getElem?
    intro j
    by_cases hj : i = j
    · subst hj
      rw [List.getElem?_set_self (List.getElem?_eq_some_iff.mp e).1, e]
    · rw [List.getElem?_set_ne hj]
  rwa [e2] at this
theorem rep_flat2 {F F' : Hp} {d : D} {v : V} (hf : flatD d = true) (h : rep M F d v) : rep M F' d v := by
  cases d <;> simp [flatD] at hf <;> unfold rep at h ⊢ <;> exact h
end
end
end TS

namespace TS
open PySem L2
noncomputable section
section
variable {M : Gm} {W : WX} {X : Cx} {i0 ir : Nat} {c : Cn M} {F F' H H' : Hp} {σ σ' : St} {s : NS} {adr adr' : Adr} {cont cont' : Con} {C dx : Addr} {fvs : List (Str × V)}
theorem rowsOk.congr {κ : Type} {mk : List (κ × V) → HO} {j : Nat} {L : List (κ × List D)} {v : V} (h : rowsOk M F adr cont j mk L v) (h1 : adr' (.fld j) = adr (.fld j)) (h2 : ∀ e, adr' (.row j e) = adr (.row j e)) (h3 : cont' (.fld j) = cont (.fld j)) (h4 : ∀ e, cont' (.row j e) = cont (.row j e)) : rowsOk M F adr' cont' j mk L v := by
  obtain ⟨k1, ⟨kvs, k2, k3, k4⟩, k5, k6⟩ := h
  refine ⟨by rw [h1]; exact k1, ⟨kvs, by rw [h3]; exact k2, k3, fun e kv he => by rw [h2]; exact k4 e kv he⟩, fun e x hx => ?_, fun e he => by rw [h4]; exact k6 e he⟩
  obtain ⟨vs, l1, l2⟩ := k5 e x hx
  exact ⟨vs, by rw [h4]; exact l1, l2⟩
theorem fldOk.congr {j : Nat} {f : NF} {v : V} (h : fldOk M F adr cont j f v) (h1 : adr' (.fld j) = adr (.fld j)) (h2 : ∀ e, adr' (.row j e) = adr (.row j e)) (h3 : cont' (.fld j) = cont (.fld j)) (h4 : ∀ e, cont' (.row j e) = cont (.row j e)) : fldOk M F adr' cont' j f v := by
  cases f with
  | d x => exact h
  | dk ks ds =>
    obtain ⟨k1, kvs, k2, k3, k4⟩ := h
    exact ⟨by rw [h1]; exact k1, kvs, by rw [h3]; exact k2, k3, k4⟩
  | rk L => exact rowsOk.congr h h1 h2 h3 h4
  | rt L => exact rowsOk.congr h h1 h2 h3 h4
theorem rowsOk.grow {κ : Type} {mk : List (κ × V) → HO} {j : Nat} {L : List (κ × List D)} {v : V} {k : κ} {p : Addr} {kvs : List (κ × V)} (h : rowsOk M F adr cont j mk L v) (hm : ∀ a b, mk a = mk b → a = b) (hc : cont (.fld j) = some (mk kvs)) :
    rowsOk M F (setC adr (.row j L.length) p) (setC (setC cont (.row j L.length) (some (.lst []))) (.fld j) (some (mk (kvs ++ [(k, .ref p)])))) j mk (L ++ [(k, [])]) v := by
  obtain ⟨k1, ⟨kvs', k2, k3, k4⟩, k5, k6⟩ := h
  rw [hc] at k2
  have := hm _ _ (Option.some.inj k2)
  subst this
  have hll : kvs.length = L.length := by have := congrArg List.length k3; simpa using this
  refine ⟨by rw [setC_ne (by intro z; cases z)]; exact k1, ⟨_, setC_same _ _ _, by simp [k3], fun e kv he => ?_⟩, fun e x hx => ?_, fun e he => ?_⟩
  · by_cases hlt : e < L.length
    · rw [List.getElem?_append_left (by omega)] at he
      rw [setC_ne (by intro z; cases z; omega)]; exact k4 e kv he
    · have : e = L.length := by
        have := (List.getElem?_eq_some_iff.mp he).1
        simp at this; omega
      subst this
      rw [List.getElem?_append_right (by omega)] at he
      simp [hll] at he
      subst he
      rw [setC_same]
  · by_cases hlt : e < L.length
    · rw [List.getElem?_append_left hlt] at hx
      obtain ⟨vs, l1, l2⟩ := k5 e x hx
      exact ⟨vs, by rw [setC_ne (by intro z; cases z), setC_ne (by intro z; cases z; omega)]; exact l1, l2⟩
    · have : e = L.length := by
        have := (List.getElem?_eq_some_iff.mp hx).1
        simp at this; omega
      subst this
      rw [List.getElem?_append_right (Nat.le_refl _)] at hx
      simp at hx
      subst hx
      exact ⟨[], by rw [setC_ne (by intro z; cases z)]; exact setC_same _ _ _, by simp [reps]⟩
  · simp at he
    rw [setC_ne (by intro z; cases z), setC_ne (by intro z; cases z; omega)]
    exact k6 e (by omega)
end
end
end TS

namespace TS
open PySem L2
noncomputable section
section
variable {M : Gm} {W : WX} {X : Cx} {i0 ir : Nat}
end
end
end TS

namespace TS
open PySem L2
noncomputable section
section
variable {M : Gm} {W : WX} {X : Cx} {i0 ir : Nat} {c : Cn M} {F F' H H' : Hp} {σ : St} {δ : Sl} {s : NS}
end
end
end TS

namespace TS
open PySem L2
noncomputable section
def fChain (g g' : D → D → Option R) (fa fb fc : FD) : FE := fun δ => (fa δ).bind fun x δ1 => (fb δ1).bind fun y δ2 => match g x y with
  | some (.imm (.bl true)) => (fc δ2).bind fun w δ3 => (match g' y w with
    | some z => .ok z δ3
    | none => .bad)
  | some (.imm (.bl false)) => .ok (.imm (.bl false)) δ2
  | _ => .bad
section
variable {M : Gm} {W : WX} {X : Cx} {a b c : Expr} {pos : Pos} {fa fb fc : FD} {r r' : R2} {g g' : D → D → Option R}
def gGet : D → D → D → Option D
  | .dK ks ds, k, x => (keyOf k).map fun k => (lookD ks ds k).getD x
  | .dT ks ds, .tup kds, x => (keysOf kds).map fun k => (lookD ks ds k).getD x
  | _, _, _ => none
def isDD : D → Bool
  | .dK _ _ => true
  | .dT _ _ => true
  | _ => false
def fGet (fo fk fx : FD) : FD := fun δ => (fo δ).bind fun d δ1 => if isDD d then (fk δ1).bind fun k δ2 => (fx δ2).bind fun x δ3 => (match gGet d k x with
  | some z => .ok z δ3
  | none => .bad) else .bad
end
end
end TS

namespace TS
open PySem L2
noncomputable section
section
variable {M : Gm} {c : Cn M} {W : WX} {X : Cx} {F H : Hp} {σ : St} {δ : Sl}
def sPar2E (i j : Nat) (f : FX) : FS := fun δ => (f δ).bindS fun rs δ1 => match rs with
  | [a, b] => if i < δ1.length then .nx ((δ1.set i (some a)).set j (some b)) else .bad
  | _ => .bad
end
end
end TS

namespace TS
open PySem L2 PySem.Spec PyProof.Rows
noncomputable section
mutual
def noLam : D → Bool
  | .lam => false
  | .lst ds => noLams ds
  | .tup ds => noLams ds
  | .scr ds => noLams ds
  | .dK _ ds => noLams ds
  | .dT _ ds => noLams ds
  | .obj _ ds => noLams ds
  | _ => true
def noLams : List D → Bool
  | [] => true
  | d :: ds => noLam d && noLams ds
end
section
variable {M : Gm} {L : Lm} {F F' H H' : Hp}
mutual
theorem rep_unl : ∀ (d : D) (v : V), noLam d = true → rep (M.wl L) F d v → rep M F d v
  | .non, v, _, h => by unfold rep at h ⊢; exact h
  | .bl _, v, _, h => by unfold rep at h ⊢; exact h
  | .int _, v, _, h => by unfold rep at h ⊢; exact h
  | .str _, v, _, h => by unfold rep at h ⊢; exact h
  | .lst ds, v, n, h => by
    unfold rep at h ⊢
    obtain ⟨a, vs, h1, h2, h3⟩ := h
    exact ⟨a, vs, h1, h2, reps_unl ds vs (by unfold noLam at n; exact n) h3⟩
  | .scr ds, v, n, h => by
    unfold rep at h ⊢
    obtain ⟨a, vs, h1, h2, h3⟩ := h
    exact ⟨a, vs, h1, h2, reps_unl ds vs (by unfold noLam at n; exact n) h3⟩
  | .tup ds, v, n, h => by
    unfold rep at h ⊢
    obtain ⟨a, vs, h1, h2, h3⟩ := h
    exact ⟨a, vs, h1, h2, reps_unl ds vs (by unfold noLam at n; exact n) h3⟩
  | .dK ks ds, v, n, h => by
    unfold rep at h ⊢
    obtain ⟨a, od, vs, h1, h2, h3, h4⟩ := h
    exact ⟨a, od, vs, h1, h2, h3, reps_unl ds _ (by unfold noLam at n; exact n) h4⟩
  | .dT ks ds, v, n, h => by
    unfold rep at h ⊢
    obtain ⟨a, od, vs, h1, h2, h3, h4⟩ := h
    exact ⟨a, od, vs, h1, h2, h3, reps_unl ds _ (by unfold noLam at n; exact n) h4⟩
  | .obj c ds, v, n, h => by
    unfold rep at h ⊢
    obtain ⟨a, C, dx, fs, h1, h2, h3, h4, h5⟩ := h
    exact ⟨a, C, dx, fs, h1, h2, h3, h4, reps_unl ds _ (by unfold noLam at n; exact n) h5⟩
  | .cls c, v, _, h => by unfold rep at h ⊢; exact h
  | .ktp ns, v, _, h => by unfold rep at h ⊢; exact h
  | .lam, v, n, h => by unfold noLam at n; cases n
theorem reps_unl : ∀ (ds : List D) (vs : List V), noLams ds = true → reps (M.wl L) F ds vs → reps M F ds vs
  | [], vs, _, h => by unfold reps at h ⊢; exact h
  | d :: ds, vs, n, h => by
    unfold noLams at n
    rw [Bool.and_eq_true] at n
    unfold reps at h ⊢
    obtain ⟨v, r, h1, h2, h3⟩ := h
    exact ⟨v, r, h1, rep_unl d v n.1 h2, reps_unl ds r n.2 h3⟩
end
mutual
theorem rep_lm (hM : M.lm = L0) : ∀ (d : D) (v : V), rep M F d v → rep (M.wl L) F d v
  | .non, v, h => by unfold rep at h ⊢; exact h
  | .bl _, v, h => by unfold rep at h ⊢; exact h
  | .int _, v, h => by unfold rep at h ⊢; exact h
  | .str _, v, h => by unfold rep at h ⊢; exact h
  | .lst ds, v, h => by
    unfold rep at h ⊢
    obtain ⟨a, vs, h1, h2, h3⟩ := h
    exact ⟨a, vs, h1, h2, reps_lm hM ds vs h3⟩
  | .scr ds, v, h => by
    unfold rep at h ⊢
    obtain ⟨a, vs, h1, h2, h3⟩ := h
    exact ⟨a, vs, h1, h2, reps_lm hM ds vs h3⟩
  | .tup ds, v, h => by
    unfold rep at h ⊢
    obtain ⟨a, vs, h1, h2, h3⟩ := h
    exact ⟨a, vs, h1, h2, reps_lm hM ds vs h3⟩
  | .dK ks ds, v, h => by
    unfold rep at h ⊢
    obtain ⟨a, od, vs, h1, h2, h3, h4⟩ := h
    exact ⟨a, od, vs, h1, h2, h3, reps_lm hM ds _ h4⟩
  | .dT ks ds, v, h => by
    unfold rep at h ⊢
    obtain ⟨a, od, vs, h1, h2, h3, h4⟩ := h
    exact ⟨a, od, vs, h1, h2, h3, reps_lm hM ds _ h4⟩
  | .obj c ds, v, h => by
    unfold rep at h ⊢
    obtain ⟨a, C, dx, fs, h1, h2, h3, h4, h5⟩ := h
    exact ⟨a, C, dx, fs, h1, h2, h3, h4, reps_lm hM ds _ h5⟩
  | .cls c, v, h => by unfold rep at h ⊢; exact h
  | .ktp ns, v, h => by unfold rep at h ⊢; exact h
  | .lam, v, h => by
    unfold rep at h
    rw [hM] at h
    exact (show False from h).elim
theorem reps_lm (hM : M.lm = L0) : ∀ (ds : List D) (vs : List V), reps M F ds vs → reps (M.wl L) F ds vs
  | [], vs, h => by unfold reps at h ⊢; exact h
  | d :: ds, vs, h => by
    unfold reps at h ⊢
    obtain ⟨v, r, h1, h2, h3⟩ := h
    exact ⟨v, r, h1, rep_lm hM d v h2, reps_lm hM ds r h3⟩
end
theorem obAt_unl {o : OB} {a : Addr} (n : noLam o.toD = true) (h : obAt (M.wl L) F H o a) : obAt M F H o a := by
  cases o with
  | l ds => obtain ⟨vs, h1, h2⟩ := h; exact ⟨vs, h1, reps_unl _ _ (by unfold OB.toD noLam at n; exact n) h2⟩
  | dK ks ds => obtain ⟨vs, h1, h2, h3⟩ := h; exact ⟨vs, h1, h2, reps_unl _ _ (by unfold OB.toD noLam at n; exact n) h3⟩
  | dT ks ds => obtain ⟨vs, h1, h2, h3⟩ := h; exact ⟨vs, h1, h2, reps_unl _ _ (by unfold OB.toD noLam at n; exact n) h3⟩
  | o c ds => obtain ⟨C, dx, fs, h1, h2, h3, h4⟩ := h; exact ⟨C, dx, fs, h1, h2, h3, reps_unl _ _ (by unfold OB.toD noLam at n; exact n) h4⟩
theorem xAt_unl {x : XD} {cls : Value} {d : Option Addr} (n : noLams x.vs = true) (h : xAt (M.wl L) F x cls d H) : xAt M F x cls d H := by
  obtain ⟨C, h1, h2, h3⟩ := h
  refine ⟨C, h1, h2, ?_⟩
  rcases h3 with h3 | ⟨dd, fs, k1, k2, k3, k4⟩
  · exact .inl h3
  · exact .inr ⟨dd, fs, k1, k2, k3, reps_unl _ _ n k4⟩
theorem xAt_lm (hM : M.lm = L0) {x : XD} {cls : Value} {d : Option Addr} (h : xAt M F x cls d H) : xAt (M.wl L) F x cls d H := by
  obtain ⟨C, h1, h2, h3⟩ := h
  refine ⟨C, h1, h2, ?_⟩
  rcases h3 with h3 | ⟨dd, fs, k1, k2, k3, k4⟩
  · exact .inl h3
  · exact .inr ⟨dd, fs, k1, k2, k3, reps_lm hM _ _ k4⟩
end
def frz1 (i : Nat) (δ : Sl) : Sl := match δ[i]? with
  | some (some (.own o)) => δ.set i (some (.imm o.toD))
  | _ => δ
def frzS : List Nat → Sl → Sl
  | [], δ => δ
  | i :: is, δ => frzS is (frz1 i δ)
def immP (δ : Sl) : Sl := δ.map fun x => match x with
  | some (.imm d) => some (.imm d)
  | _ => none
def thk (fb : FE) (δ : Sl) : Res D := match frz fb (immP δ) with
  | .ok d _ => .ok d []
  | .exc x _ => .exc x []
  | .bad => .bad
def fRes (i : Nat) (res : Res D) : FE := fun δ => match δ[i]? with
  | some (some (.imm .lam)) => (match res with
    | .ok d _ => .ok (.imm d) δ
    | .exc x _ => .exc x δ
    | .bad => .bad)
  | _ => .bad
def outL (r : FR) (δ : Sl) : Res R := match r with
  | .ok (.imm d) _ => if noLam d then .ok (.imm d) δ else .bad
  | .ok (.own o) _ => if noLam o.toD then .ok (.own o) δ else .bad
  | .exc x _ => if noLams x.vs then .exc x δ else .bad
  | _ => .bad
def fLam (ixs : List Nat) (mt : Res D → Fm) (fb : FE) : FE := fun δ => outL (mt (thk fb (frzS ixs δ)) none [.lam]) (frzS ixs δ)
section
variable {M : Gm} {c : Cn M} {F F' H H' : Hp} {σ : L2.St} {δ : Sl}
theorem Ok.frz1 (ok : Ok c F H σ δ) (i : Nat) : LkS (fun H' => ∃ F', Same F F' ∧ Ok c F' H' σ (TS.frz1 i δ)) H := by
  unfold TS.frz1
  split
  · rename_i o q
    obtain ⟨v, e1, e2⟩ := ok.take q
    refine ((ok.drop i).freeze e2).mono fun H2 ⟨F', g, ok', r'⟩ => ?_
    have ok2 := ok'.setSame (i := i) e1 r'
    rw [List.set_set] at ok2
    exact ⟨F', g, ok2⟩
  · exact .now ⟨F, Same.refl _, ok⟩
theorem Ok.frzS : ∀ {F H : Hp} {δ : Sl} (is : List Nat), Ok c F H σ δ → LkS (fun H' => ∃ F', Same F F' ∧ Ok c F' H' σ (TS.frzS is δ)) H
  | F, _, _, [], ok => .now ⟨F, Same.refl _, ok⟩
  | F, _, _, i :: is, ok => (ok.frz1 i).bind fun _ ⟨F1, g1, ok1⟩ => (Ok.frzS is ok1).mono fun _ ⟨F2, g2, ok2⟩ => ⟨F2, g1.trans g2, ok2⟩
theorem Ok.immP (ok : Ok c F H σ δ) (g : Same F F') : SlI (M := M) F' σ (TS.immP δ) := ⟨by unfold TS.immP; simp [ok.len], fun i r e => by
  unfold TS.immP at e
  rw [List.getElem?_map] at e
  cases q : δ[i]? with
  | none => rw [q] at e; cases e
  | some x =>
    rw [q] at e
    cases x with
    | none => simp at e
    | some r0 =>
      cases r0 with
      | imm d =>
        simp at e
        subst e
        obtain ⟨v, e1, e2⟩ := ok.slot i _ q
        exact ⟨d, v, rfl, e1, rep_mono g _ _ e2⟩
      | own o => simp at e
      | brw o => simp at e
      | nst _ _ => simp at e⟩
end
section
variable {X : Cx} {W : WX} {M : Gm}
def canE (M : Gm) (W : WX) (f : FE) : TE := fun σ H Q => ∃ (c : Cn M) (F : Hp) (δ : Sl), Ok c F H σ δ ∧ Post c W F σ (ρR c σ) (f δ) Q
theorem de_can {e : Expr} {f : FE} (p : PE X e (canE M W f)) : DE M W X e f := ⟨_, p, fun c F H σ δ Q ok post => ⟨c, F, δ, ok, post⟩⟩
end
end
end TS

namespace TS
open PySem L2
noncomputable section
def SmK (K : PySem.W.Frag) : Prop := ∃ o, K.lookup sysModules = some o ∧ o.cls = .type "dict"
theorem smd_ok {K : PySem.W.Frag} (h : (Fx.smd).ok K = true) : SmK K := by
  have h : (match K.lookup sysModules with | some ⟨.type c, _, _, _⟩ => decide (c = "dict") | _ => false) = true := h
  split at h
  · rename_i c od dd sl e
    have := of_decide_eq_true h
    subst this
    exact ⟨_, e, rfl⟩
  · cases h
def kP : Key → PyData
  | .inl i => .int i
  | .inr x => .str x
mutual
def toPd : D → Option PyData
  | .non => some .none
  | .bl b => some (.bool b)
  | .int i => some (.int i)
  | .str x => some (.str x)
  | .lst ds => (toPds ds).map PyData.list
  | .tup ds => (toPds ds).map PyData.tuple
  | .ktp ns => some (.tuple (ns.map PyData.int))
  | .dK ks ds => (toPds ds).map fun ps => PyData.dict ((ks.map kP).zip ps)
  | _ => none
def toPds : List D → Option (List PyData)
  | [] => some []
  | d :: ds => (toPd d).bind fun p => (toPds ds).map fun ps => p :: ps
end
section
variable {M : Gm} {F H : Hp} {X : Cx} {pins : List (Addr × Obj)} {σ : St} {s : Shared}
theorem pairs_keys {w : World} {P : Program} : ∀ {es : List DictEntry} {vs : List (Key × Value)}, Pairs (mixKind P w) es vs → ReadsAll s.heap (es.map (·.key)) ((vs.map (·.1)).map kP) []
  | _, _, .nil => .nil
  | _, _, .cons (e := e) (kv := kv) h _ t => by
    have r := pairs_keys t
    have h1 : ∃ as, Reads s.heap e.key (kP kv.1) as ∧ as = [] := by
      rcases keyIs_shape h with ⟨i, u, h1, h2⟩ | ⟨x, u, h1, h2⟩
      · rw [h1, h2]; exact ⟨_, .int i u, rfl⟩
      · rw [h1, h2]; exact ⟨_, .str x u, rfl⟩
    obtain ⟨as, h1, rfl⟩ := h1
    exact ReadsAll.cons h1 r
theorem pairs_vals {w : World} {P : Program} : ∀ {es : List DictEntry} {vs : List (Key × Value)}, Pairs (mixKind P w) es vs → es.map (·.val) = vs.map (·.2)
  | _, _, .nil => rfl
  | _, _, .cons _ h t => by rw [List.map_cons, List.map_cons, h, pairs_vals t]
theorem kv_vals : ∀ {kvs : List (Key × V)} {vs : List (Key × Value)}, KV kvs vs → Vals (kvs.map (·.2)) (vs.map (·.2)) ∧ kvs.map (·.1) = vs.map (·.1)
  | _, _, .nil => ⟨.nil, rfl⟩
  | _, _, .cons h t => by
    obtain ⟨h1, h2⟩ := kv_vals t
    exact ⟨.cons h.2 h1, by rw [List.map_cons, List.map_cons, h.1, h2]⟩
theorem toPds_len : ∀ {ds : List D} {ps : List PyData}, toPds ds = some ps → ps.length = ds.length
  | [], ps, h => by unfold toPds at h; cases h; rfl
  | d :: ds, ps, h => by
    unfold toPds at h
    obtain ⟨p, _, h⟩ := Option.bind_eq_some_iff.mp h
    obtain ⟨ps', h1, rfl⟩ := Option.map_eq_some_iff.mp h
    simp [toPds_len h1]
theorem ints_reads : ∀ (ns : List Int) (its : List Value), Vals (ns.map V.int) its → ∃ as, ReadsAll s.heap its (ns.map PyData.int) as ∧ sysModules ∉ as
  | [], _, r => by cases r; exact ⟨_, .nil, by simp⟩
  | n :: ns, _, r => by
    rw [List.map_cons] at r
    cases r with
    | cons r1 r2 =>
      obtain ⟨t, rfl⟩ := r1
      obtain ⟨as, k1, k2⟩ := ints_reads ns _ r2
      exact ⟨_, .cons (.int n t) k1, by simpa using k2⟩
mutual
theorem rep_reads (I : Inv X pins σ H s) (hs : Same F H) (hK : X.K = M.K) (sm : SmK X.K) : ∀ (d : D) (v : V) (u : Value) (p : PyData), rep M F d v → toPd d = some p → RelV v u → ∃ as, Reads s.heap u p as ∧ sysModules ∉ as
  | .non, v, u, p, h, e, r => by
    unfold rep at h; unfold toPd at e; cases e; subst h; cases r
    exact ⟨_, .none, by simp⟩
  | .bl b, v, u, p, h, e, r => by
    unfold rep at h; unfold toPd at e; cases e; subst h; cases r
    exact ⟨_, .bool b, by simp⟩
  | .int i, v, u, p, h, e, r => by
    unfold rep at h; unfold toPd at e; cases e; subst h; obtain ⟨t, rfl⟩ := r
    exact ⟨_, .int i t, by simp⟩
  | .str x, v, u, p, h, e, r => by
    unfold rep at h; unfold toPd at e; cases e; subst h; obtain ⟨t, rfl⟩ := r
    exact ⟨_, .str x t, by simp⟩
  | .lst ds, v, u, p, h, e, r => by
    unfold rep at h; unfold toPd at e
    obtain ⟨a, vs, rfl, h2, h3⟩ := h
    obtain ⟨ps, e1, rfl⟩ := Option.map_eq_some_iff.mp e
    cases r
    obtain ⟨its, rv, ⟨o, n, ho, hc, _, hd⟩, _⟩ := I.list (SqL.of (K := X.K) (hs _ _ h2))
    obtain ⟨as, k1, k2⟩ := reps_reads I hs hK sm ds vs its ps h3 e1 rv
    refine ⟨_, Reads.list ho hc hd k1, fun z => ?_⟩
    rcases List.mem_cons.mp z with z | z
    · obtain ⟨o2, q1, q2⟩ := sm
      have := I.kIn _ _ q1
      rw [z, ho] at this
      have e3 := Option.some.inj this
      rw [← e3, hc] at q2
      injection q2 with q3
      exact absurd q3 (by decide)
    · exact k2 z
  | .tup ds, v, u, p, h, e, r => by
    unfold rep at h; unfold toPd at e
    obtain ⟨a, vs, rfl, h2, h3⟩ := h
    obtain ⟨ps, e1, rfl⟩ := Option.map_eq_some_iff.mp e
    cases r
    obtain ⟨its, rv, ⟨o, ho, hc, n, hd⟩, _⟩ := I.tuple (SqT.of (K := X.K) (hs _ _ h2))
    obtain ⟨as, k1, k2⟩ := reps_reads I hs hK sm ds vs its ps h3 e1 rv
    exact ⟨_, Reads.tuple ho hc hd k1, k2⟩
  | .dK ks ds, v, u, p, h, e, r => by
    unfold rep at h; unfold toPd at e
    obtain ⟨a, od, kvs, rfl, h2, h3, h4⟩ := h
    obtain ⟨ps, e1, rfl⟩ := Option.map_eq_some_iff.mp e
    cases r
    obtain ⟨_, hsm, vs, kv, o, es, ep, ho, hx, hd, _, hp, _⟩ := dk_rd I.hok (.inr ⟨od, hs _ _ h2⟩)
    obtain ⟨rv, ek⟩ := kv_vals kv
    rw [← pairs_vals hp] at rv
    obtain ⟨as, k1, k2⟩ := reps_reads I hs hK sm ds _ _ ps h4 e1 rv
    have kk := pairs_keys (s := s) hp
    rw [← ek, h3] at kk
    have hl : ps.length = ks.length := by
      rw [toPds_len e1, ← reps_length h4, ← h3]; simp
    refine ⟨_, Reads.dict ho hx.1 hd (kvs := (ks.map kP).zip ps) (as := []) (bs := as) ?_ ?_, ?_⟩
    · rw [List.map_fst_zip (by simp [hl])]; exact kk
    · rw [List.map_snd_zip (by simp [hl])]; exact k1
    · intro z
      simp only [List.append_nil, List.cons_append, List.nil_append, List.mem_cons] at z
      rcases z with z | z
      · rw [← z] at hsm; simp at hsm
      · exact k2 z
  | .scr ds, v, u, p, h, e, r => by unfold toPd at e; cases e
  | .dT _ ds, v, u, p, h, e, r => by unfold toPd at e; cases e
  | .obj _ ds, v, u, p, h, e, r => by unfold toPd at e; cases e
  | .cls _, v, u, p, h, e, r => by unfold toPd at e; cases e
  | .lam, v, u, p, h, e, r => by unfold toPd at e; cases e
  | .ktp ns, v, u, p, h, e, r => by
    unfold rep at h; unfold toPd at e; cases e
    obtain ⟨a, rfl, h2⟩ := h
    cases r
    obtain ⟨its, rv, ⟨o, ho, hc, n, hd⟩, _⟩ := I.tuple (a := a) (xs := ns.map V.int) (by rw [hK]; exact itup_sq hs h2)
    obtain ⟨as, k1, k2⟩ := ints_reads (s := s) ns its rv
    exact ⟨_, Reads.tuple ho hc hd k1, k2⟩
theorem reps_reads (I : Inv X pins σ H s) (hs : Same F H) (hK : X.K = M.K) (sm : SmK X.K) : ∀ (ds : List D) (vs : List V) (us : List Value) (ps : List PyData), reps M F ds vs → toPds ds = some ps → Vals vs us → ∃ as, ReadsAll s.heap us ps as ∧ sysModules ∉ as
  | [], vs, us, ps, h, e, r => by
    unfold reps at h; unfold toPds at e; cases e; subst h; cases r
    exact ⟨_, .nil, by simp⟩
  | d :: ds, vs, us, ps, h, e, r => by
    unfold reps at h; unfold toPds at e
    obtain ⟨v, vs', rfl, h1, h2⟩ := h
    obtain ⟨p, e1, e⟩ := Option.bind_eq_some_iff.mp e
    obtain ⟨ps', e2, rfl⟩ := Option.map_eq_some_iff.mp e
    cases r with
    | cons r1 r2 =>
      obtain ⟨as, k1, k2⟩ := rep_reads I hs hK sm d v _ p h1 e1 r1
      obtain ⟨bs, k3, k4⟩ := reps_reads I hs hK sm ds vs' _ ps' h2 e2 r2
      exact ⟨_, .cons k1 k3, by simp [k2, k4]⟩
end
end
def shOkD (p : PyData) : Bool := gd (p.showable = true ∧ p.depth ≤ 32 ∧ p.shown.length ≤ sizeLine)
def gReprD (d : D) : Option Str := match toPd d with
  | some p => if shOkD p then some p.shown else none
  | none => none
def fReprD (fa : FD) : FD := fun δ => (fa δ).bind fun d δ1 => match gReprD d with
  | some x => .ok (.str x) δ1
  | none => .bad
section
variable {X : Cx} {M : Gm} {W : WX} {e : Expr} {fa : FD} {p pos : Pos}
end
end
end TS

namespace TS
open PySem L2 PySem.W
noncomputable section
section
variable {X : Cx} {W : WX} {M : Gm} {pins : List (Addr × Obj)} {σ : L2.St} {H : Hp} {s : Shared}
end
section
variable {X : Cx} {W : WX} {M : Gm} {pins : List (Addr × Obj)} {σ : L2.St} {H : Hp} {s : Shared} {k : Nat} {C p g : Addr} {mc : Value} {sp : Sp} {o : Expr} {m : Str} {pos apos : Pos} {ta : TE} {tkw : TA} {kws : List Keyword} {ks : List Str}
def fCMethK (n : Nat) (f : Fm) (l : Nat) (fk : FA) : FE := fun δ => (fk δ).bind fun ds δ1 => if ds.length = l then outE (f none (.cls n :: ds)) δ1 else .bad
end
end
end TS

namespace TS
open PySem L2 PySem.W
noncomputable section
section
variable {M : Gm} {c : Cn M} {W : WX} {X : Cx} {q : Cau} {o e : Expr} {es : List Expr} {apos cpos pos : Pos} {fa : FA} {i : Nat}
end
section
open GQ PySem.SeqAt AutoSeq1 MeetsSeq MeetsSeq2 MeetsSeq3 SeqRoads2
variable {prog : Program} {w : World} {A : Around} {R : Result → Shared → Prop}
end
section
variable {M : Gm} {X : Cx} {pins : List (Addr × Obj)} {σ : L2.St} {H : Hp} {s : Shared}
end
end
end TS

namespace TS
open PySem L2 PySem.W
noncomputable section
section
variable {X : Cx} {M : Gm} {W : WX} {e : Expr} {fe : FD} {p pos : Pos}
end
section
variable {X : Cx} {M : Gm} {W : WX} {e v1 v2 o : Expr} {es rest : List Expr} {fe fo : FD} {p pos apos : Pos} {g : Str → Sl → Res Str}
end
end
end TS

namespace TS
open PySem L2 PySem.W
noncomputable section
section
variable {X : Cx} {M : Gm} {W : WX} {o e : Expr} {es : List Expr} {kws : List Keyword} {apos cpos pos p : Pos} {fa fk : FA} {i : Nat}
end
end
end TS

namespace TS
open PySem L2
noncomputable section
section
variable {P : Program} {w : World} {K : PySem.W.Frag} {mg : Str → Option Value} {base : Heap} {CX : CXT} {k n : Nat} {ks ps : List Str} {f : Addr} {sp : Sp}
theorem FnK.imp {sp' : Sp} (F : FnK P w K mg base CX k f n ks sp) (h : ∀ vs H Q E, sp' vs H Q E → sp vs H Q E) : FnK P w K mg base CX k f n ks sp' := fun A outer s H us ws vs zs Q E hr e0 l1 l2 r rz hs => F A outer s H us ws vs zs Q E hr e0 l1 l2 r rz (h _ _ _ _ hs)
end
section
variable {M : Gm} {P : Program} {w : World} {mg : Str → Option Value} {base : Heap} {k n : Nat} {ks : List Str} {f : Addr}
end
end
end TS

namespace HT
open PySem PySem.Spec PyProof.Rows
section
variable {prog : Program} {w : World} {A : Around} {E : Value → Shared → Prop} {s : Shared}
end
end HT

namespace TS
open PySem L2 PySem.Spec PyProof.Rows
noncomputable section
section
variable {X : Cx} {M : Gm} {W : WX} {e st : Expr} {te : TE} {ts : TO} {p2 pos : Pos} {fe fs : FD}
end
end
end TS

namespace TS
open PySem L2
noncomputable section
section
variable {M : Gm} {W : WX} {X : Cx} {i0 ir : Nat}
end
def rRX (M : Gm) : List V → Hp → VK → Prop := fun xs H Q => ∃ (F : Hp) (d : D) (x : V) (q : PyData), xs = [x] ∧ Same F H ∧ rep M F d x ∧ toPd d = some q ∧ shOkD q = true ∧ Q (.str q.shown) H
section
variable {M : Gm} {W : WX} {X : Cx} {e : Expr} {fe : FD} {p pos : Pos}
theorem rRX_of {c : Cn M} {F H : Hp} {σ : L2.St} {δ : Sl} {d : D} {x : Str} {v : V} {Q : VK} (ok : Ok c F H σ δ) (rd : rep M F d v) (e : gReprD d = some x) (post : Post c W F σ (ρD c) (.ok (.str x) δ) Q) : rRX M [v] H Q := by
  unfold gReprD at e
  split at e
  · rename_i p' hp'
    split at e
    · rename_i hsh
      cases e
      exact ⟨F, d, v, p', rfl, ok.same, rd, hp', hsh, post.ok ok (rep_str' _)⟩
    · cases e
  · cases e
variable {q : Cau}
theorem call_reprZ {k : Nat} {A0 : Around} (hr : Room k A0) (e1 : X.A.units = A0.units) (e2 : X.A.guards = A0.guards) {F H : Hp} {d : D} {q : PyData} {x : V} (hs : Same F H) (hK : X.K = M.K) (sm : SmK X.K) (rx : rep M F d x) (hd : toPd d = some q) (ho : shOkD q = true) {pins : List (Addr × Obj)} {s : Shared} {σ : St} {u : Value} {Q : VK} (I : Inv X pins σ H s) (ru : RelV x u) (h : Q (.str q.shown) H) :
    wpAny (model X.prog X.w) X.A (call (.builtin "repr") [u]) (EP X pins σ Q) X.xe s := by
  obtain ⟨h1, h3, h4⟩ := of_gd ho
  obtain ⟨as, rd, na⟩ := rep_reads I hs hK sm d x u q rx hd ru
  have hu := hr.units
  have hg0 := hr.gu
  rw [← e1] at hu
  rw [← e2] at hg0
  have fin : ∀ (h' : Heap) (t : Tok) (tk : Nat), (∀ b o, s.heap.get? b = some o → h'.get? b = some o) → EP X pins σ Q (.str q.shown t) { s with heap := h', toks := tk } := fun h' t tk kp => ⟨.str _, H, I.kept kp, ⟨_, rfl⟩, h⟩
  cases rd with
  | none => exact PySem.P.repr_of_none ⟨.str _, H, I.tok _, ⟨_, rfl⟩, h⟩
  | bool b => exact PySem.P.repr_of_bool ⟨.str _, H, I.tok _, ⟨_, rfl⟩, h⟩
  | int i t => exact PySem.P.repr_of_int (of_decide_eq_true h1) ⟨.str _, H, I.tok _, ⟨_, rfl⟩, h⟩
  | str y t => exact PySem.P.repr_of_str ⟨.str _, H, I.tok _, ⟨_, rfl⟩, h⟩ h4
  | list a1 a2 a3 a4 => exact repr_of_reads' (.list a1 a2 a3 a4) h1 (fun _ => na) hg0 (by omega) (fun _ _ e => e) (fun h' u tk kp => fin h' u tk kp) h4
  | tuple a1 a2 a3 a4 => exact repr_of_reads' (.tuple a1 a2 a3 a4) h1 (fun _ => na) hg0 (by omega) (fun _ _ e => e) (fun h' u tk kp => fin h' u tk kp) h4
  | dict a1 a2 a3 a4 a5 => exact repr_of_reads' (.dict a1 a2 a3 a4 a5) h1 (fun _ => na) hg0 (by omega) (fun _ _ e => e) (fun h' u tk kp => fin h' u tk kp) h4
theorem z_reprX {j : Nat} {A0 : Around} (sm : SmK X.K) (hr : Room j A0) (hg : Gl X "repr") (hm : X.mg "repr" = none) (ha : DIz M W X q e fe) (e1 : X.A.units = A0.units := by rfl) (e2 : X.A.guards = A0.guards := by rfl) (hK : X.K = M.K := by rfl) (he : starEach (e :: []) X.env = (false, eval e X.env) :: starEach [] X.env := by rfl) (hpl : (backTo pos (starEach [] X.env)).any (·.1) = false := by rfl) : DIz M W X q (.Call (.Name "repr" p) [e] [] pos) (fReprD fe) := by
  obtain ⟨t, pt, ha⟩ := ha
  have cr : CallR X (.builtin "repr") (rRX M) := by
    rintro pins s σ H xs us Q I rv ⟨F, d, x, q, rfl, hs, rx, hd, ho, h⟩
    obtain ⟨u, rfl, ru⟩ := vals1 rv
    exact call_reprZ hr e1 e2 hs hK sm rx hd ho I ru h
  refine ⟨_, pe_callB cr hg hm bt_repr (pa_cons pt pa_nil he) (by decide) (by decide) he hpl, fun c F H σ δ Q hz ok post => ?_⟩
  refine ha c F H σ δ _ hz ok (Post.bind post fun d δ1 v F1 H1 _ s1 ok1 rr post => ?_)
  split at post
  · rename_i x er
    exact rRX_of ok1 rr er post
  · exact post.elim
end
end
end TS

namespace TS
open PySem L2
noncomputable section
structure LkF (M : Gm) (i : Nat) (ds : List D) (c : Cn M) (F H : Hp) (σ : L2.St) : Prop where
  ex : ∃ a vs, σ[i]? = some (some (.ref a)) ∧ F a = none ∧ c.H0 a ≠ none ∧ c.io ≠ some a ∧ H a = some (.lst vs) ∧ reps M F ds vs
section
variable {M : Gm} {W : WX} {X : Cx} {e e0 : Expr} {es : List Expr} {fa : FA} {f : Fm} {i : Nat} {ds : List D} {pos pos' : Pos}
theorem LkF.go {c : Cn M} {F H F1 H1 : Hp} {σ σ1 : L2.St} {δ δ1 : Sl} (h : LkF M i ds c F H σ) (ok : Ok c F H σ δ) (s : Same F F1) (ok1 : Ok c F1 H1 σ1 δ1) : ∃ a vs, σ[i]? = some (some (.ref a)) ∧ F1 a = none ∧ H1 a = some (.lst vs) ∧ reps M F1 ds vs := by
  obtain ⟨a, vs, h1, h2, h3, h4, h5, h6⟩ := h.ex
  have f0 : c.F0 a = none := by
    cases e : c.F0 a with
    | none => rfl
    | some o => rw [ok.grow a o e] at h2; cases h2
  cases e : c.H0 a with
  | none => exact absurd e h3
  | some o =>
    have k1 := ok.kept a o e h4
    have k2 := ok1.kept a o e h4
    rw [h5] at k1
    cases k1
    exact ⟨a, vs, h1, ok1.nofz a h3 f0, k2, reps_mono s _ _ h6⟩
end
section
variable {M : Gm} {P : Program} {w : World} {mg : Str → Option Value} {base : Heap}
end
section
variable {M : Gm} {W : WX} {X : Cx} {e e0 : Expr} {i n : Nat} {g : List D → Option (List D)}
end
end
end TS

namespace TS
open PySem L2
noncomputable section
section
variable {X : Cx} {M : Gm} {W : WX} {o : Expr} {apos cpos : Pos} {fe : FE} {i : Nat}
end
end
end TS

namespace TS
open PySem L2
noncomputable section
section
variable {X : Cx} {M : Gm} {W : WX} {a b : Expr} {fa fb : FD} {pos : Pos}
end
end
end TS

namespace TS
open PySem L2
noncomputable section
section
variable {X : Cx} {M : Gm} {W : WX} {a b : Expr} {fa fb : FD} {pos : Pos}
end
end
end TS

namespace TS
open PySem L2
noncomputable section
section
open PySem.Spec PyProof.Rows
variable {P : Program} {w : World} {K : PySem.W.Frag} {tg : Expr} {d : Addr} {o : Obj} {es : Array DictEntry} {ep : Nat}
variable {X : Cx} {e : Expr} {td : TE} {apos cpos : Pos}
end
def keyD : Key → D
  | .inl i => .int i
  | .inr x => .str x
def keysD (ks : List Key) : D := .tup (ks.map keyD)
section
variable {M : Gm} {c : Cn M} {W : WX} {X : Cx} {tg e : Expr} {F F1 H H1 : Hp} {σ : L2.St} {δ : Sl}
theorem rep_key (k : Key) : rep M F (keyD k) (kV k) := by cases k <;> (unfold keyD rep; rfl)
theorem reps_keys : ∀ ks : List Key, reps M F (ks.map keyD) (ks.map kV)
  | [] => reps_nil
  | k :: ks => reps_cons (rep_key k) (reps_keys ks)
theorem Yl.key {k : List Key} {q : Addr} (s : Same F H) (hq : H q = some (.tup (k.map kV))) : Yl M F H (.ref q) H (keysD k) := by
  refine ⟨fun b => if b = q then some (.tup (k.map kV)) else none, fun b o e => ?_, Same.refl _, ?_⟩
  · dsimp only at e
    by_cases z : b = q
    · subst z; rw [if_pos rfl] at e; cases e; exact ⟨⟨_, rfl⟩, hq⟩
    · rw [if_neg z] at e; cases e
  · unfold keysD rep
    refine ⟨q, _, rfl, ?_, reps_keys k⟩
    unfold ovH
    cases z : F q with
    | none => simp
    | some o => have := s _ _ z; rw [hq] at this; cases this; rfl
end
end
end TS

namespace TS
open PySem L2
noncomputable section
section
variable {M : Gm} {c : Cn M} {W : WX} {X : Cx} {e : Expr} {F H : Hp} {σ : L2.St} {δ : Sl} {fa : FA} {p pos : Pos}
end
end
end TS

namespace TS
open PySem L2
noncomputable section
section
variable {M : Gm} {c : Cn M} {W : WX} {X : Cx}
end
end
end TS

namespace TS
open PySem L2
noncomputable section
section
variable {M : Gm} {c : Cn M} {W : WX} {X : Cx}
end
end
end TS

namespace TS
open PySem L2 PySem.Spec PyProof.Rows
noncomputable section
section
variable {prog : Program} {w : World} {A : Around} {E : Value → Shared → Prop} {s : Shared} {env : Env}
end
section
variable {X : Cx} {W : WX} {M : Gm}
end
end
end TS

namespace L2
open PySem PySem.Spec PyProof.Rows
section
variable {X : Cx}
end
end L2
namespace TS
open PySem L2
noncomputable section
section
variable {M : Gm} {W : WX} {X : Cx} {tg : Expr} {F F1 H H1 : Hp} {σ : St} {δ : Sl}
end
end
end TS

namespace TS
open PySem L2 PySem.Spec PyProof.Rows
noncomputable section
section
variable {prog : Program} {w : World} {o : Obj} {es : Array DictEntry} {ep : Nat}
end
section
variable {X : Cx} {e : Expr} {te : TE} {apos cpos : Pos}
end
section
variable {M : Gm} {W : WX} {X : Cx} {e a c1 : Expr} {fe : FD} {p p2 apos cpos pos : Pos} {tab : Tg → Option Bool}
section
variable {k : Nat} {x : Str} {ad : Addr} {ns : List Int} (hr : Room k X.A) (hg : Gl X x) (hm : X.mg x = some (.ref ad)) (hk : KTup M.K ad ns) (ha : DI M W X a fe) (hK : X.K = M.K := by rfl) (hdb : (x == ("__debug__" : Str)) = false := by decide)
include hr hg hm hk ha hK hdb
end
end
end
end TS

namespace TS
open PySem L2 PySem.Spec PyProof.Rows
noncomputable section
section
variable {prog : Program} {w : World} {K : Type} [DecidableEq K] {knd : HeapKind prog w K} {A : Around} {E : Value → Shared → Prop} {s : Shared}
inductive HitsH {K : Type} [DecidableEq K] (A : Around) (s : Shared) (kb : List (K × Addr × Value)) : List (K × Addr × Value) → Bool → Prop
  | nil : HitsH A s kb [] true
  | miss {x : K × Addr × Value} {r : List (K × Addr × Value)} : atKey kb x.1 = none → HitsH A s kb (x :: r) false
  | hit {x : K × Addr × Value} {y : Addr × Value} {r : List (K × Addr × Value)} {e b : Bool} : atKey kb x.1 = some y → SeqAt.EqAt A s x.2.2 y.2 e → HitsH A s kb r b → HitsH A s kb (x :: r) (e && b)
theorem HitsH.inv {kb : List (K × Addr × Value)} {x : K × Addr × Value} {r : List (K × Addr × Value)} {b : Bool} (h : HitsH A s kb (x :: r) b) :
    (atKey kb x.1 = none ∧ b = false) ∨ ∃ y e b', atKey kb x.1 = some y ∧ SeqAt.EqAt A s x.2.2 y.2 e ∧ HitsH A s kb r b' ∧ b = (e && b') := by
  cases h with
  | miss hn => exact .inl ⟨hn, rfl⟩
  | hit hy he hr => exact .inr ⟨_, _, _, hy, he, hr, rfl⟩
end
section
variable {X : Cx} {pins : List (Addr × Obj)} {σ : L2.St} {H : Hp} {s : Shared}
end
section
variable {M : Gm} {F H : Hp}
end
section
variable {M : Gm} {W : WX} {X : Cx} {a b : Expr} {pos : Pos} {fa fb : FD} {k : Nat}
end
end
end TS

namespace TS
open PySem L2
noncomputable section
section
variable {M : Gm} {c : Cn M} {W : WX} {X : Cx} {F H : Hp} {σ : L2.St} {δ : Sl}
end
end
end TS

namespace TS
open PySem L2
noncomputable section
section
variable {M : Gm} {c : Cn M} {W : WX} {X : Cx} {F H : Hp} {σ : L2.St} {δ : Sl}
end
end
end TS

namespace L2
open PySem PySem.Spec PyProof.Rows
section
variable {X : Cx}
end
end L2
namespace TS
open PySem L2
noncomputable section
section
variable {M : Gm} {W : WX} {X : Cx} {tg : Expr}
end
end
end TS

namespace TS
open PySem L2
noncomputable section
section
variable {X : Cx} {c : Code} {st : Stmt} {rest ss : List Stmt} {t u : L2.TS}
end
section
variable {X : Cx} {W : WX}
end
section
variable {M : Gm} {W : WX} {X : Cx} {c : Code} {st : Stmt} {ss rest : List Stmt} {f g : FS}
end
structure FunX (K : PySem.W.Frag) (x qual : Str) (params : Arguments) (body : List Stmt) (scope : Scope) (f cc c : Addr) (fd : FuncData) : Prop where
  ex : ∃ (oc : Value) (od : Option Addr) (kV doc pm : Value) (an : Option Addr) (ct : Value) (osl : Array (Option Value)),
    fd = PySem.W.fnX x qual params body scope [("__class__", cc)] .none kV doc pm an (.ref c) ct ∧ K.lookup f = some ⟨oc, od, .func fd, osl⟩ ∧ PySem.W.codeIn K (.ref c) qual = true
  kp : PySem.W.keepIn K (.ref f) = true
section
variable {M : Gm} {P : Program} {w : World} {mg : Str → Option Value} {base : Heap}
theorem FunX.bindsN {K : PySem.W.Frag} {x qual : Str} {params : Arguments} {body : List Stmt} {scope : Scope} {f cc c : Addr} {fd : FuncData} {ps : List Str} (F : FunX K x qual params body scope f cc c fd)
    (h : ∀ (kV doc pm : Value) (an : Option Addr) (ct : Value) (us : List Value), us.length = ps.length → bindArgs (PySem.W.fnX x qual params body scope [("__class__", cc)] .none kV doc pm an (.ref c) ct) ⟨us, []⟩ = pure (ps.zip us)) : Binds K fd ps [] := by
  obtain ⟨oc, od, kV, doc, pm, an, ct, osl, rfl, _⟩ := F.ex
  intro s us kin hl
  rw [List.append_nil] at hl ⊢
  exact BindsTo.of_eq (h kV doc pm an ct us hl)
end
section
variable {X : Cx} {W : WX} {M : Gm} {K : PySem.W.Frag}
end
end
end TS

namespace TS
open PySem L2
noncomputable section
section
variable {M : Gm} {W : WX} {X : Cx} {e : Expr} {es : List Expr} {p pos : Pos} {x : Str} {k : Nat} {f : Addr} {sp : Sp}
end
end
end TS

namespace TS
open PySem L2
noncomputable section
section
variable {M : Gm} {c : Cn M} {W : WX} {X : Cx} {e : Expr} {F H : Hp} {σ : L2.St} {δ : Sl} {fa : FA} {p pos : Pos}
end
end
end TS

namespace PySem.SeqAt
open AutoSeq1 (wpAny_loadPart')
open MeetsSeq MeetsSeq2 MeetsSeq3 SeqRoads2
section
variable {prog : Program} {w : World} {A : Around} {s : Shared}
end
end PySem.SeqAt
namespace TS
open PySem L2 PySem.Spec PyProof.Rows PySem.SeqAt
noncomputable section
section
variable {X : Cx} {pins : List (Addr × Obj)} {σ : L2.St} {H : Hp} {s : Shared}
end
section
variable {M : Gm} {F H : Hp}
end
section
variable {M : Gm} {W : WX} {X : Cx} {a b : Expr} {pos : Pos} {fa fb : FD} {k : Nat}
end
end
end TS

namespace TS
open PySem L2
end TS

namespace TS
open PySem L2 PySem.W
noncomputable section
def DgK (K : PySem.W.Frag) : Prop := nsOkIn K cStatics = true ∧ nsIn K cStatics "sys.int_max_str_digits" = some none
theorem DgK.no {K : PySem.W.Frag} {h : Heap} (d : DgK K) (X : K.In h) : h.NoDigits :=
  ⟨_, .of_isNs (isNs_of_in X d.1), ns_none_of X (.of_isNs (isNs_of_in X d.1)) d.2⟩
section
variable {prog : Program} {w : World} {A : Around} {E : Value → Shared → Prop} {s : Shared}
end
section
variable {X : Cx} {M : Gm} {W : WX} {e : Expr} {fa : FD} {p pos : Pos}
end
end
end TS

namespace TS
open PySem L2
noncomputable section
structure RoomG (g : List Code) (k : Nat) (A : Around) : Prop where
  lo : L2.Room k A
  gu : A.guards = some g
theorem RoomG.deeper {g : List Code} {k : Nat} {A : Around} (r : RoomG g (k + 1) A) (env : Env) : RoomG g k (A.deeper env) := ⟨L2.Room.deeper r.lo env, r.gu⟩
theorem RoomG.mono {g : List Code} {j k : Nat} {A : Around} (r : RoomG g k A) (h : j ≤ k) : RoomG g j A := ⟨L2.Room.mono r.lo h, r.gu⟩
def FnRG (P : Program) (w : World) (K : PySem.W.Frag) (mg : Str → Option Value) (base : Heap) (CX : CXT) (k : Nat) (f : Addr) (sp : List Code → Sp) : Prop :=
  ∀ (g : List Code) (A : Around) (outer : List Env) (s : Shared) (H : Hp) (us : List Value) (vs : List V) (Q : VK) (E : XK), RoomG g k A → Env0 P w K mg base A outer s H → Vals vs us → sp g vs H Q E → codeAny (model P w) A (.call (.ref f) ⟨us, []⟩) (CR CX outer P w H s Q E) s
theorem FnRG.mono {P : Program} {w : World} {K : PySem.W.Frag} {mg : Str → Option Value} {base : Heap} {CX : CXT} {j k : Nat} {f : Addr} {sp : List Code → Sp} (F : FnRG P w K mg base CX j f sp) (h : j ≤ k) : FnRG P w K mg base CX k f sp := fun g A outer s H us vs Q E hr e0 => F g A outer s H us vs Q E (hr.mono h) e0
section
variable {P : Program} {w : World} {K : PySem.W.Frag} {mg : Str → Option Value} {base : Heap} {CX : CXT} {j k : Nat} {f : Addr} {fd : FuncData} {ps : List Str} {sp : List Code → Sp}
end
def GOK (g : List Code) (F : Hp) : Prop := ∀ c ∈ g, ∃ id a rest kw vs b C dx fs, c = .builtin id ⟨.ref a :: rest, kw⟩ ∧ F a = some (.lst vs) ∧ V.ref b ∈ vs ∧ F b = some (.ins C dx fs)
theorem GOK.mono {g : List Code} {F F' : Hp} (h : GOK g F) (e : Same F F') : GOK g F' := fun c hc => by
  obtain ⟨id, a, rest, kw, vs, b, C, dx, fs, e1, e2, e3, e4⟩ := h c hc
  exact ⟨id, a, rest, kw, vs, b, C, dx, fs, e1, e _ _ e2, e3, e _ _ e4⟩
section
variable {X : Cx} {pins : List (Addr × Obj)} {σ : St} {F H : Hp} {s : Shared}
end
def spDP (PF : Hp → Prop) (M : Gm) (f : Fm) : Sp := fun vs H Q E => ∃ (F : Hp) (_ : PF F) (io : Option OB) (a : Addr) (ws : List V) (ds : List D),
  vs = ioV io a ++ ws ∧ Same F H ∧ Tb M F H ∧ reps M F ds ws ∧ ioAt M F H io a ∧
  match f io ds with
  | .ok r io' => ∀ v F' H', Stp M F H F' H' (io.map fun _ => a) → resAt M H F' H' r v → ioAt M F' H' io' a → Q v H'
  | .exc x io' => ∀ cls d F' H', Stp M F H F' H' (io.map fun _ => a) → xAt M F' x cls d H' → ioAt M F' H' io' a → E cls d H'
  | .bad => False
section
variable {M : Gm}
theorem spDP.un {PF : Hp → Prop} {f : Fm} {vs : List V} {H : Hp} {Q : VK} {E : XK} (h : spDP PF M f vs H Q E) : spD M f vs H Q E := by
  obtain ⟨F, _, h⟩ := h
  exact ⟨F, h⟩
end
section
variable {X : Cx} {M : Gm} {W : WX} {g : List Code} {e v1 v2 : Expr} {es rest : List Expr} {fe : FD} {pos : Pos} {j : Str → Sl → Res Str}
end
section
variable {M : Model} {A : Around} {E : Value → Shared → Prop} {s : Shared} {K : PySem.W.Frag} {x C f : Addr} {ox : Obj} {od : Option Obj} {name : Str}
end
section
open Builtin Builtin.List
variable {X : Cx} {M : Gm} {A : Around} {R : Result → Shared → Prop} {pins : List (Addr × Obj)} {σ : St} {F H : Hp}
end
section
variable {X : Cx} {M : Gm} {pins : List (Addr × Obj)} {σ : St} {F H : Hp} {s : Shared}
end
end
end TS

namespace TS
open PySem PySem.Spec PyProof.Rows L2
noncomputable section
section
variable {prog : Program} {w : World} {A : Around} {E : Value → Shared → Prop}
end
section
variable {X : Cx}
abbrev PT (K : PySem.W.Frag) (H : Hp) (p : Addr) (x : List Key × Addr × V) : Prop := SqT K H p [.ref x.2.1, x.2.2] ∧ H x.2.1 = some (.tup (x.1.map kV))
end
section
variable {M : Gm} {c : Cn M} {W : WX} {X : Cx} {e : Expr} {F H : Hp} {σ : L2.St} {δ : Sl} {fa : FA} {p pos : Pos}
end
abbrev BodyOk (M : Gm) (P : Program) (w : World) (K : PySem.W.Frag) (mg : Str → Option Value) (base : Heap) (lv : Nat) (q : Str) (st : Stmt) (ad : Addr) (ns : List Str) (g : FS) : Prop :=
  ∀ (cdv : Value) (A : Around) (outer : List Env) (s : Shared) (H : Hp) (E : XK), TS.Room lv (A.deeper (PyProof.Rows.envOfC q (defScope st) s.heap.objs.size ad cdv)) → Takes (cxOf (L2.CX P w) P w K mg base ns q (defScope st) ad cdv A outer s H E) (fun cls d _ H => E cls d H) →
    PassesOwn (model P w) (A.deeper (PyProof.Rows.envOfC q (defScope st) s.heap.objs.size ad cdv)) (PyProof.Rows.envOfC q (defScope st) s.heap.objs.size ad cdv) (cxOf (L2.CX P w) P w K mg base ns q (defScope st) ad cdv A outer s H E).xe →
    DSs M (fun cls d _ H => E cls d H) (cxOf (L2.CX P w) P w K mg base ns q (defScope st) ad cdv A outer s H E) (defBody st) g
abbrev DefOk (M : Gm) (P : Program) (w : World) (K : PySem.W.Frag) (mg : Str → Option Value) (base : Heap) (n : Nat) (nm q : Str) (st : Stmt) (dv : List V) (ad : Addr) (ps : List Str) (m : Fm) : Prop :=
  ∃ fd, FunD K nm q (defArgs st) (defBody st) (defScope st) dv [] ad fd ∧ TS.FnOk P w K mg base (L2.CX P w) n ad fd ps (spD M m)
end
end TS

namespace TS
open PySem L2 PySem.Spec PyProof.Rows PySem.SeqAt
noncomputable section
section
variable {prog : Program} {w : World} {A : Around} {s : Shared}
end
section
variable {X : Cx}
end
section
variable {M : Gm} {W : WX} {X : Cx} {a b : Expr} {pos : Pos} {fa fb : FD} {k i : Nat}
end
end
end TS

namespace TS
open PySem L2
noncomputable section
def pD : D ⊕ OB → D
  | .inl d => d
  | .inr o => o.toD
def pL : D ⊕ OB → Bool
  | .inl _ => true
  | .inr o => !o.dic
def nstD (tp : Bool) (ps : List (D ⊕ OB)) : D := if tp then .tup (ps.map pD) else .lst (ps.map pD)
def seeR : R → Option R
  | .imm d => some (.imm d)
  | .own o => if o.dic then none else some (.imm o.toD)
  | .brw o => if o.dic then none else some (.imm o.toD)
  | .nst tp ps => if ps.all pL then some (.imm (nstD tp ps)) else none
def seeS (δ : Sl) : Sl := δ.map fun x => x.bind seeR
def flatO : OB → Bool
  | .l ds => ds.all flatD
  | _ => false
def flatQ : R → Bool
  | .imm d => flatD d
  | .own o => flatO o
  | _ => false
def fSee (f : FE) : FE := fun δ => match f (seeS δ) with
  | .ok r _ => if flatQ r then .ok r δ else .bad
  | _ => .bad
def tSee (f : FT) : FT := fun δ => match f (seeS δ) with
  | .ok b _ => .ok b δ
  | _ => .bad
def allAt (F H : Hp) : Hp := fun b => match F b with
  | some o => some o
  | none => str0 H b
section
variable {M : Gm} {c : Cn M} {W : WX} {X : Cx} {F H F' H' : Hp} {σ : L2.St} {δ : Sl}
theorem allAt_same (s : Same F H) : Same (allAt F H) H := fun b o e => by
  unfold allAt at e
  split at e
  · rename_i o' e'; cases e; exact s b _ e'
  · exact (str0_nt e).1
theorem allAt_grow : Same F (allAt F H) := fun b o e => by
  unfold allAt; rw [e]
theorem allAt_at (s : Same F H) {b : Addr} {o : HO} (e : H b = some o) (n : NT o) : allAt F H b = some o := by
  unfold allAt
  cases q : F b with
  | none => exact str0_of e n
  | some u => have := s b u q; rw [e] at this; cases this; rfl
theorem allAt_tb (t : Tb M F H) : Tb M (allAt F H) H :=
  t.keep (fun _ _ e _ => e) (fun b o e n z => by
    unfold allAt
    rw [z]
    cases q : str0 H b with
    | none => rfl
    | some u => rw [(str0_nt q).1] at e; cases e; exact absurd (str0_nt q).2.tt n) fun b ps e => by
    unfold allAt at e
    split at e
    · rename_i o' e'; cases e; exact t.nt b ps e'
    · have := (str0_nt e).2; cases this
theorem ob_see (s : Same F H) {o : OB} {a : Addr} (hd : o.dic = false) (g : Same F' F) (h : obAt M F' H o a) : rep M (allAt F H) o.toD (.ref a) := by
  obtain ⟨u, h1, h2⟩ := obAt_nt h
  exact obAt_rep hd (obAt_mono (g.trans allAt_grow) ((allAt_at s h1 h2).trans h1.symm) h)
theorem nats_see (s : Same F H) {H0 : Hp} (hk : ∀ b o, H0 b = some o → H b = some o) : ∀ {ps : List (D ⊕ OB)} {vs : List V}, ps.all pL = true → Paired (nAt M F H0) ps vs → reps M (allAt F H) (ps.map pD) vs
  | [], _, _, .nil => reps_nil
  | .inl d :: ps, v :: vs, hp, .cons h1 h2 => by
    simp only [List.all_cons, Bool.and_eq_true] at hp
    exact reps_cons (rep_mono allAt_grow _ _ h1) (nats_see s hk hp.2 h2)
  | .inr o :: ps, v :: vs, hp, .cons h1 h2 => by
    simp only [List.all_cons, Bool.and_eq_true] at hp
    obtain ⟨b, rfl, h1⟩ := h1
    obtain ⟨u, e1, _⟩ := obAt_nt h1
    have hd : o.dic = false := by have := hp.1; unfold pL at this; simpa using this
    exact reps_cons (ob_see s hd (Same.refl _) (obAt_mono (Same.refl _) ((hk b u e1).trans e1.symm) h1)) (nats_see s hk hp.2 h2)
theorem nst_see (s : Same F H) {H0 : Hp} (hk : ∀ b o, H0 b = some o → H b = some o) {tp : Bool} {ps : List (D ⊕ OB)} {a : Addr} {vs : List V} (hp : ps.all pL = true) (n : NAt M F H0 tp ps a vs) : rep M (allAt F H) (nstD tp ps) (.ref a) := by
  have r := nats_see s hk hp n.pts
  have t := n.top
  unfold nstD
  cases tp with
  | true =>
    simp only [if_true]
    unfold rep
    exact ⟨a, vs, rfl, allAt_grow _ _ t, r⟩
  | false =>
    simp only [Bool.false_eq_true, if_false] at t ⊢
    unfold rep
    exact ⟨a, vs, rfl, allAt_at s (hk _ _ t) rfl, r⟩
theorem see_slI (ok : Ok c F H σ δ) : SlI (M := M) (allAt F H) σ (seeS δ) := ⟨by unfold seeS; rw [List.length_map]; exact ok.len, fun i r e => by
  unfold seeS at e
  rw [List.getElem?_map] at e
  obtain ⟨x, e1, e2⟩ := Option.map_eq_some_iff.mp e
  cases x with
  | none => cases e2
  | some r0 =>
    obtain ⟨v, h1, h2⟩ := ok.slot i r0 e1
    cases r0 with
    | imm d => cases e2; exact ⟨d, v, rfl, h1, rep_mono allAt_grow _ _ h2⟩
    | own o =>
      simp only [Option.bind_some, seeR] at e2
      split at e2
      · cases e2
      · rename_i hd
        cases e2
        obtain ⟨a, rfl, _, _, h3⟩ := h2
        exact ⟨_, _, rfl, h1, ob_see ok.same (by simpa using hd) (Same.refl _) h3⟩
    | brw o =>
      simp only [Option.bind_some, seeR] at e2
      split at e2
      · cases e2
      · rename_i hd
        cases e2
        obtain ⟨a, rfl, _, _, h3⟩ := h2
        exact ⟨_, _, rfl, h1, ob_see ok.same (by simpa using hd) (Same.refl _) h3⟩
    | nst tp ps =>
      simp only [Option.bind_some, seeR] at e2
      split at e2
      · rename_i hp
        cases e2
        obtain ⟨a, vs, rfl, hnd, n⟩ := h2
        -- only the own objects matter
        have n2 : NAt M F H tp ps a vs := n.mono (Same.refl _) fun b hb => by
          obtain ⟨u, e3, _⟩ := n.nt hb
          rw [e3]
          exact ok.kept b u e3 (c.ndh _ hnd b hb).2.2
        exact ⟨_, _, rfl, h1, nst_see ok.same (fun _ _ e => e) hp n2⟩
      · cases e2⟩
theorem reps_flatD {F1 : Hp} : ∀ {ds : List D} {vs : List V}, ds.all flatD = true → reps M F1 ds vs → reps M F ds vs
  | [], vs, _, h => by unfold reps at h ⊢; exact h
  | d :: ds, vs, hf, h => by
    simp only [List.all_cons, Bool.and_eq_true] at hf
    unfold reps at h
    obtain ⟨v, r, rfl, h1, h2⟩ := h
    exact reps_cons (rep_flat2 hf.1 h1) (reps_flatD hf.2 h2)
theorem see_back {F2 H2 : Hp} {σ2 : L2.St} {δ2 : Sl} (ok : Ok c F H σ δ) (ok2 : Ok (frm M (allAt F H) H) F2 H2 σ2 δ2) : Ok c F H2 σ δ ∧ Same F F2 := by
  have st0 := stp_back ok2
  have st : Stp M F H F H2 none := ⟨Same.refl _, fun _ _ _ _ e => e, st0.kept, fun b o e => st0.same b o (st0.grow b o (allAt_grow b o e)), st0.tb.tab, ok.tb.fr, ok.tb.nt⟩
  exact ⟨ok.stp st, fun b o e => st0.grow b o (allAt_grow b o e)⟩
theorem de_see {e : Expr} {f : FE} (h : DE M W X e f) : DE M W X e (fSee f) := by
  obtain ⟨t, p, h⟩ := h
  refine ⟨t, p, fun c F H σ δ Q ok post => ?_⟩
  unfold fSee at post
  split at post
  · rename_i r δ1 e1
    split at post
    · rename_i hf
      refine h (frm M (allAt F H) H) _ _ σ _ _ ((see_slI ok).ok (allAt_same ok.same) (allAt_tb ok.tb)) ?_
      rw [e1]
      intro v F2 H2 g2 ok2 rv
      obtain ⟨ok3, g3⟩ := see_back ok ok2
      refine post v F H2 (Same.refl _) ok3 ?_
      cases r with
      | imm d => exact rep_flat2 hf rv
      | brw o => exact rv.elim
      | nst _ _ => cases hf
      | own o =>
        obtain ⟨a, rfl, k1, k2, k3, k4⟩ := rv
        have nn : ∀ u, H a = some u → ¬ NT u := str0_none k2
        refine ⟨a, rfl, ?_, ok.h1 nn, ?_, ok.fresh1 nn⟩
        · cases z : F a with
          | none => rfl
          | some q => rw [g3 a q z] at k1; cases k1
        · cases o with
          | l ds => obtain ⟨vs, m1, m2⟩ := k3; exact ⟨vs, m1, reps_flatD hf m2⟩
          | dK _ _ => cases hf
          | dT _ _ => cases hf
          | o _ _ => cases hf
    · exact post.elim
  · exact post.elim
theorem dt_see {e : Expr} {f : FT} (h : DT M W X e f) : DT M W X e (tSee f) := by
  obtain ⟨t, p, h⟩ := h
  refine ⟨t, p, fun c F H σ δ Q ok post => ?_⟩
  unfold tSee at post
  split at post
  · rename_i r δ1 e1
    refine h (frm M (allAt F H) H) _ _ σ _ _ ((see_slI ok).ok (allAt_same ok.same) (allAt_tb ok.tb)) ?_
    rw [e1]
    intro v F2 H2 g2 ok2 rv
    exact post v F H2 (Same.refl _) (see_back ok ok2).1 rv
  · exact post.elim
def ndOf : List R → List (D ⊕ OB)
  | .imm d :: rs => .inl d :: ndOf rs
  | .own o :: rs => .inr o :: ndOf rs
  | _ :: rs => .inl .non :: ndOf rs
  | [] => []
def fNst (f : FX) : FE := fun δ => (f δ).bind fun rs δ1 => if (ndOf rs).length ≤ 16777216 then .ok (.nst false (ndOf rs)) δ1 else .bad
theorem repXs_nst : ∀ {rs : List R} {vs : List V}, repXs c F H σ δ rs vs → Paired (nAt M F H) (ndOf rs) vs ∧ (nAdr (ndOf rs) vs).Nodup ∧ ∀ b ∈ nAdr (ndOf rs) vs, F b = none ∧ c.H0 b = none ∧ (∀ (i : Nat) (r : R), δ[i]? = some (some r) → r.mu = true → σ[i]? ≠ some (some (V.ref b))) ∧ ∃ (i : Nat) (r : R), rs[i]? = some r ∧ r.mu = true ∧ vs[i]? = some (V.ref b)
  | [], vs, h => by
    cases (show vs = [] from h)
    exact ⟨.nil, List.nodup_nil, fun b hb => by cases hb⟩
  | r :: rs, vs, h => by
    obtain ⟨v, ws, rfl, h1, h2, h3⟩ := h
    obtain ⟨k1, k2, k3⟩ := repXs_nst h2
    have up : ∀ b ∈ nAdr (ndOf rs) ws, F b = none ∧ c.H0 b = none ∧ (∀ (i : Nat) (r : R), δ[i]? = some (some r) → r.mu = true → σ[i]? ≠ some (some (V.ref b))) ∧ ∃ (i : Nat) (r' : R), (r :: rs)[i]? = some r' ∧ r'.mu = true ∧ (v :: ws)[i]? = some (V.ref b) := fun b hb => by
      obtain ⟨l1, l2, l3, i, r', l4, l5, l6⟩ := k3 b hb
      exact ⟨l1, l2, l3, i + 1, r', by simpa using l4, l5, by simpa using l6⟩
    cases r with
    | imm d =>
      have ea : nAdr (ndOf (R.imm d :: rs)) (v :: ws) = nAdr (ndOf rs) ws := by cases v <;> rfl
      exact ⟨.cons h1 k1, by rw [ea]; exact k2, by rw [ea]; exact up⟩
    | brw o => exact h1.elim
    | nst _ _ => exact h1.elim
    | own o =>
      obtain ⟨a, rfl, l1, l2, l3, l4⟩ := h1
      have ea : nAdr (ndOf (R.own o :: rs)) (V.ref a :: ws) = a :: nAdr (ndOf rs) ws := rfl
      refine ⟨.cons ⟨a, rfl, l3⟩ k1, ?_, ?_⟩
      · rw [ea, List.nodup_cons]
        refine ⟨fun hm => ?_, k2⟩
        obtain ⟨_, _, _, i, r', m1, m2, m3⟩ := k3 a hm
        exact h3 rfl i r' m1 m2 m3
      · rw [ea]
        intro b hb
        rcases List.mem_cons.mp hb with rfl | hb
        · exact ⟨l1, l2, l4, 0, _, rfl, rfl, rfl⟩
        · exact up b hb
theorem de_nst {es : List Expr} {pos : Pos} {f : FX} (h : DX M W X es f) : DE M W X (.List es pos) (fNst f) := by
  obtain ⟨t, p, h⟩ := h
  refine ⟨_, pe_lst p, fun c F H σ δ Q ok post => h c F H σ δ _ ok (Post.bind post fun rs δ1 vs F1 H1 _ s1 ok1 rr post => ?_)⟩
  split at post
  · rename_i hl
    obtain ⟨k1, k2, k3⟩ := repXs_nst rr
    have lv : vs.length = (ndOf rs).length := (Paired.length k1).symm
    refine ⟨by rw [lv, sizeLine_eq]; exact hl, fun q hq => ?_⟩
    have ne : ∀ b ∈ nAdr (ndOf rs) vs, b ≠ q := fun b hb z => by
      obtain ⟨u, hu, _⟩ := nAdr_nt k1 b hb
      rw [z, hq] at hu; cases hu
    refine post.ok (ok1.alloc hq) ⟨q, vs, rfl, ⟨?_, nAts_mono (Same.refl _) (fun b hb => upd_ne (ne b hb)) k1, ?_⟩, fun b hb => ?_⟩
    · simp only [Bool.false_eq_true, if_false]; exact upd_same
    · exact List.nodup_cons.mpr ⟨fun hm => ne q hm rfl, k2⟩
    · rcases List.mem_cons.mp hb with rfl | hb
      · exact ⟨ok1.f hq, ok1.h0 hq, ok1.fresh hq⟩
      · obtain ⟨l1, l2, l3, _⟩ := k3 b hb
        exact ⟨l1, l2, l3⟩
  · exact post.elim
def fNstT (f : FX) : FE := fun δ => (f δ).bind fun rs δ1 => if (ndOf rs).length ≤ 16777216 then .ok (.nst true (ndOf rs)) δ1 else .bad
structure CLe (c c' : Cn M) : Prop where
  F0 : c'.F0 = c.F0
  io : c'.io = c.io
  H0 : ∀ b o, c.H0 b = some o → c'.H0 b = some o
theorem CLe.refl (c : Cn M) : CLe c c := ⟨rfl, rfl, fun _ _ e => e⟩
theorem CLe.none {c c' : Cn M} (l : CLe c c') {b : Addr} (h : c'.H0 b = none) : c.H0 b = none := by
  cases e : c.H0 b with
  | none => rfl
  | some o => rw [l.H0 b o e] at h; cases h
def kill1 : Option R → Option R
  | some (.nst _ _) => none
  | x => x
def killN (δ : Sl) : Sl := δ.map kill1
theorem kill_get {i : Nat} {r : R} (e : (killN δ)[i]? = some (some r)) : δ[i]? = some (some r) ∧ ∀ tp ps, r ≠ .nst tp ps := by
  unfold killN at e
  rw [List.getElem?_map] at e
  obtain ⟨x, e1, e2⟩ := Option.map_eq_some_iff.mp e
  cases x with
  | none => cases e2
  | some r0 =>
    cases r0 with
    | imm d => cases e2; exact ⟨e1, fun _ _ z => by cases z⟩
    | own d => cases e2; exact ⟨e1, fun _ _ z => by cases z⟩
    | brw d => cases e2; exact ⟨e1, fun _ _ z => by cases z⟩
    | nst _ _ => cases e2
theorem Ok.weak {c c' : Cn M} (l : CLe c c') (ok : Ok c' F H σ δ) : Ok c F H σ (killN δ) where
  same := ok.same
  grow := l.F0 ▸ ok.grow
  nofz := fun b e1 e2 => by
    refine ok.nofz b (fun z => e1 (l.none z)) (by rw [l.F0]; exact e2)
  kept := fun b o e hi => ok.kept b o (l.H0 b o e) (by rw [l.io]; exact hi)
  ioh := fun a e => ok.ioh a (by rw [l.io]; exact e)
  tb := ok.tb
  len := by unfold killN; rw [List.length_map]; exact ok.len
  slot := fun i r e => by
    obtain ⟨e1, hn⟩ := kill_get e
    obtain ⟨v, h1, h2⟩ := ok.slot i r e1
    refine ⟨v, h1, ?_⟩
    cases r with
    | imm d => exact h2
    | own o =>
      obtain ⟨a, rfl, k1, k2, k3⟩ := h2
      exact ⟨a, rfl, k1, l.none k2, k3⟩
    | brw o =>
      obtain ⟨a, rfl, k1, k2, k3⟩ := h2
      exact ⟨a, rfl, k1, by rw [← l.io]; exact k2, k3⟩
    | nst tp ps => exact absurd rfl (hn tp ps)
  dist := fun i j r r' v hij e1 e2 m1 m2 s1 s2 => ok.dist i j r r' v hij (kill_get e1).1 (kill_get e2).1 m1 m2 s1 s2
theorem repR_weak {c c' : Cn M} (l : CLe c c') {r : R} {v : V} (h : repR c' F H σ δ r v) : repR c F H σ (killN δ) r v := by
  have key : ∀ a : Addr, (∀ (i : Nat) (r : R), δ[i]? = some (some r) → r.mu = true → σ[i]? ≠ some (some (V.ref a))) → ∀ (i : Nat) (r : R), (killN δ)[i]? = some (some r) → r.mu = true → σ[i]? ≠ some (some (V.ref a)) := fun a h i r e m => h i r (kill_get e).1 m
  cases r with
  | imm d => exact h
  | own o => obtain ⟨a, rfl, k1, k2, k3, k4⟩ := h; exact ⟨a, rfl, k1, l.none k2, k3, key a k4⟩
  | brw o => exact h
  | nst tp ps => obtain ⟨a, vs, k1, k2, k3⟩ := h; exact ⟨a, vs, k1, k2, fun b hb => ⟨(k3 b hb).1, l.none (k3 b hb).2.1, key b (k3 b hb).2.2⟩⟩
def SR.kill : SR → SR
  | .nx δ => .nx (killN δ)
  | .rt r δ => .rt r (killN δ)
  | .bk δ => .bk (killN δ)
  | .ct δ => .ct (killN δ)
  | .exc x δ => .exc x (killN δ)
  | .bad => .bad
theorem PostS.weak {c c' : Cn M} (l : CLe c c') {r : SR} {E : Ends} (h : PostS c W F r.kill E) : PostS c' W F r E := by
  cases r with
  | nx δ => exact fun F' H' σ' s ok => h F' H' σ' s (ok.weak l)
  | rt r δ => exact fun v F' H' σ' s ok rr => h v F' H' σ' s (ok.weak l) (repR_weak l rr)
  | bk δ => exact fun F' H' σ' s ok => h F' H' σ' s (ok.weak l)
  | ct δ => exact fun F' H' σ' s ok => h F' H' σ' s (ok.weak l)
  | exc x δ => exact fun cls d F' H' σ' s ok xa => h cls d F' H' σ' s (ok.weak l) xa
  | bad => exact h
def Hld (c c' : Cn M) : Prop := ∀ z, c'.nd = some z → ∀ b ∈ z.2.2, c.H0 b = none
def DNs (M : Gm) (W : WX) (X : Cx) (ss : List Stmt) (g : FS) : Prop := ∃ t, PSs X ss t ∧ ∀ (c c' : Cn M) F H σ δ E, CLe c c' → Hld c c' → Ok c' F H σ δ → PostS c W F (g δ).kill E → t E σ H
theorem dns_of {ss : List Stmt} {g : FS} (h : DSs M W X ss g) : DNs M W X ss g := by
  obtain ⟨t, p, h⟩ := h
  exact ⟨t, p, fun c c' F H σ δ E l _ ok post => h c' F H σ δ E ok (PostS.weak l post)⟩
theorem dns_cons {s : Stmt} {ss : List Stmt} {f g : FS} (h : DS M W X s f) (h' : DNs M W X ss g) : DNs M W X (s :: ss) (sSeq f g) := by
  obtain ⟨t, p, h⟩ := h
  obtain ⟨t', p', h'⟩ := h'
  refine ⟨_, pss_cons p p', fun c c' F H σ δ E l hz ok post => h c' F H σ δ _ ok ?_⟩
  unfold sSeq at post
  cases q : f δ with
  | nx δ1 =>
    rw [q] at post
    exact fun F1 H1 σ1 s1 ok1 => h' c c' F1 H1 σ1 δ1 E l hz ok1 (PostS.shift post s1)
  | rt r δ1 => rw [q] at post; exact PostS.weak l (r := .rt r δ1) (E := E) post
  | bk δ1 => rw [q] at post; exact PostS.weak l (r := .bk δ1) (E := E) post
  | ct δ1 => rw [q] at post; exact PostS.weak l (r := .ct δ1) (E := E) post
  | exc x δ1 => rw [q] at post; exact PostS.weak l (r := .exc x δ1) (E := E) post
  | bad => rw [q] at post; exact post.elim
def Cn.hold (c : Cn M) (H : Hp) (z : Addr × List V × List Addr) (hn : ∀ b ∈ z.2.2, (∃ u, H b = some u ∧ NT u) ∧ c.F0 b = none ∧ c.H0 b = none) : Cn M where
  F0 := c.F0
  H0 := fun b => if b ∈ z.2.2 then H b else c.H0 b
  io := c.io
  iob := fun b e => by
    split
    · rename_i hb; obtain ⟨⟨u, hu, _⟩, _⟩ := hn b hb; rw [hu]; exact fun z => by cases z
    · exact c.iob b e
  nt := fun b o e => by
    split at e
    · rename_i hb; obtain ⟨⟨u, hu, n⟩, _⟩ := hn b hb; rw [hu] at e; cases e; exact n
    · exact c.nt b o e
  nd := some z
  ndh := fun z' e b hb => by
    cases e
    obtain ⟨⟨u, hu, _⟩, h2, h3⟩ := hn b hb
    refine ⟨?_, h2, fun e => c.iob b e h3⟩
    rw [if_pos hb, hu]; exact fun z => by cases z
theorem Ok.hold (ok : Ok c F H σ δ) {tp : Bool} {ps : List (D ⊕ OB)} {v : V} {i : Nat} (hδ : killN δ = δ) (r : repR c F H σ δ (.nst tp ps) v) : ∃ c', CLe c c' ∧ Hld c c' ∧ Ok c' F H (σ.set i (some v)) (δ.set i (some (.nst tp ps))) := by
  obtain ⟨a, vs, rfl, n, hn⟩ := r
  have hn2 : ∀ b ∈ nOwn tp ps a vs, (∃ u, H b = some u ∧ NT u) ∧ c.F0 b = none ∧ c.H0 b = none := fun b hb => ⟨n.nt hb, f0_none ok (hn b hb).1, (hn b hb).2.1⟩
  have e0 : ∀ b, b ∈ nOwn tp ps a vs → (c.hold H (a, vs, nOwn tp ps a vs) hn2).H0 b = H b := fun b hb => if_pos hb
  have e1 : ∀ b, b ∉ nOwn tp ps a vs → (c.hold H (a, vs, nOwn tp ps a vs) hn2).H0 b = c.H0 b := fun b hb => if_neg hb
  refine ⟨c.hold H (a, vs, nOwn tp ps a vs) hn2, ⟨rfl, rfl, fun b o e => ?_⟩, fun z e b hb => by cases e; exact (hn2 b hb).2.2, ⟨ok.same, ok.grow, fun b h1 h2 => ?_, fun b o h1 h2 => ?_, ok.ioh, ok.tb, by simp [ok.len], fun j r e => ?_, fun j k r r' w hjk h1 h2 m1 m2 s1 s2 => ?_⟩⟩
  · rw [e1 b fun hb => by rw [(hn2 b hb).2.2] at e; cases e]; exact e
  · by_cases hb : b ∈ nOwn tp ps a vs
    · exact (hn b hb).1
    · rw [e1 b hb] at h1; exact ok.nofz b h1 h2
  · by_cases hb : b ∈ nOwn tp ps a vs
    · rw [e0 b hb] at h1; exact h1
    · rw [e1 b hb] at h1; exact ok.kept b o h1 h2
  · rcases getElem?_set_some e with ⟨rfl, e2, hl⟩ | ⟨hn', e2⟩
    · cases e2
      exact ⟨_, List.getElem?_set_self (by rw [ok.len]; exact hl), a, vs, rfl, rfl, n.mono (Same.refl _) e0⟩
    · obtain ⟨w, h1, h2⟩ := ok.slot j r e2
      refine ⟨w, by rw [List.getElem?_set_ne hn']; exact h1, ?_⟩
      cases r with
      | imm d => exact h2
      | own o =>
        obtain ⟨b, rfl, k1, k2, k3⟩ := h2
        refine ⟨b, rfl, k1, ?_, k3⟩
        rw [e1 b fun hb => (hn b hb).2.2 j _ e2 rfl h1]; exact k2
      | brw o => exact h2
      | nst _ _ => rw [← hδ] at e2; exact absurd rfl ((kill_get e2).2 _ _)
  · have f : ∀ {j : Nat} {r : R}, (δ.set i (some (.nst tp ps)))[j]? = some (some r) → r.mu = true → i ≠ j ∧ δ[j]? = some (some r) := fun h m => by
      rcases getElem?_set_some h with ⟨rfl, z, _⟩ | z
      · cases z; cases m
      · exact z
    obtain ⟨n1, g1⟩ := f h1 m1
    obtain ⟨n2, g2⟩ := f h2 m2
    rw [List.getElem?_set_ne n1] at s1
    rw [List.getElem?_set_ne n2] at s2
    exact ok.dist j k r r' w hjk g1 g2 m1 m2 s1 s2
def sHold (f : FE) (i : Nat) (g : FS) : FS := fun δ => (f δ).bindS fun r δ1 => match r with
  | .nst tp ps => (g ((killN δ1).set i (some (.nst tp ps)))).kill
  | _ => .bad
theorem kill_kill : killN (killN δ) = killN δ := by
  unfold killN
  rw [List.map_map]
  refine List.map_congr_left fun x _ => ?_
  cases x with
  | none => rfl
  | some r => cases r <;> rfl
theorem dss_hold {i : Nat} {x : Str} {e : Expr} {ss : List Stmt} {f : FE} {g : FS} {px pos : Pos} (hN : X.N.Nodup) (hi : X.N[i]? = some x) (hx : Loc X.env.scope x)
    (he : DE M W X e f) (h' : DNs M W X ss g) (hs : swapsWith e (some (.Name x px)) pos.line X.env = pure false := by rfl) (hf : X.fn x = true ∨ X.env.scope.names.lookup x = some .local := by first | exact .inl rfl | exact .inr rfl | assumption) : DSs M W X (.Assign [.Name x px] e pos :: ss) (sHold f i g) := by
  obtain ⟨t, p, he⟩ := he
  obtain ⟨t', p', h'⟩ := h'
  refine ⟨_, pss_cons (ps_set hN hi hx p hs hf) p', fun c F H σ δ E ok post => he c F H σ δ _ ok (PostS.ofE post fun r δ1 v F1 H1 _ s1 ok1 rr post => ?_)⟩
  cases r with
  | imm _ => exact post.elim
  | own _ => exact post.elim
  | brw _ => exact post.elim
  | nst tp ps =>
    have okk := ok1.weak (CLe.refl c)
    have rk := repR_weak (CLe.refl c) rr
    obtain ⟨c', l, hz, ok2⟩ := okk.hold (i := i) kill_kill rk
    exact h' c c' F1 H1 _ _ E l hz ok2 post
def Cn.putN (c : Cn M) (b0 : Addr) (u : HO) (hn : NT u) : Cn M where
  F0 := c.F0
  H0 := fun b => if b = b0 then some u else c.H0 b
  io := c.io
  iob := fun b e => by
    split
    · exact fun z => by cases z
    · exact c.iob b e
  nt := fun b o e => by
    split at e
    · cases e; exact hn
    · exact c.nt b o e
  nd := c.nd
  ndh := fun z e b hb => by
    obtain ⟨h1, h2, h3⟩ := c.ndh z e b hb
    refine ⟨?_, h2, h3⟩
    split
    · exact fun z => by cases z
    · exact h1
theorem Ok.putN {c c' : Cn M} (l : CLe c c') (ok : Ok c' F H σ δ) {z : Addr × List V × List Addr} (hz : c'.nd = some z) {b0 : Addr} (hb : b0 ∈ z.2.2) (h0 : c.H0 b0 = none) {u : HO} (hn : NT u) : CLe c (c'.putN b0 u hn) ∧ Ok (c'.putN b0 u hn) F (upd H b0 u) σ (killN δ) := by
  obtain ⟨i1, i2, i3⟩ := c'.ndh z hz b0 hb
  obtain ⟨u0, hu0⟩ : ∃ u0, c'.H0 b0 = some u0 := by
    cases e : c'.H0 b0 with
    | none => exact absurd e i1
    | some u0 => exact ⟨u0, rfl⟩
  have hH : H b0 = some u0 := ok.kept b0 u0 hu0 i3
  have hF : F b0 = none := ok.nofz b0 i1 i2
  have e0 : (c'.putN b0 u hn).H0 b0 = some u := if_pos rfl
  have e1 : ∀ b, b ≠ b0 → (c'.putN b0 u hn).H0 b = c'.H0 b := fun b h => if_neg h
  refine ⟨⟨l.F0, l.io, fun b o e => ?_⟩, ⟨fun b o e => ?_, ok.grow, fun b h1 h2 => ?_, fun b o h1 h2 => ?_, fun a e => ?_, ok.tb.write hH (c'.nt b0 u0 hu0), by unfold killN; rw [List.length_map]; exact ok.len, fun i r e => ?_, fun i j r r' v hij h1 h2 m1 m2 s1 s2 => ok.dist i j r r' v hij (kill_get h1).1 (kill_get h2).1 m1 m2 s1 s2⟩⟩
  · rw [e1 b fun q => by rw [q, h0] at e; cases e]; exact l.H0 b o e
  · rw [upd_ne fun q => by rw [q, hF] at e; cases e]; exact ok.same b o e
  · by_cases q : b = b0
    · rw [q]; exact hF
    · rw [e1 b q] at h1; exact ok.nofz b h1 h2
  · by_cases q : b = b0
    · subst q; rw [e0] at h1; cases h1; exact upd_same
    · rw [e1 b q] at h1; rw [upd_ne q]; exact ok.kept b o h1 h2
  · obtain ⟨w, k1, k2⟩ := ok.ioh a e
    have q : a ≠ b0 := fun q => i3 (q ▸ e)
    exact ⟨w, by rw [upd_ne q]; exact k1, k2⟩
  · obtain ⟨g1, g2⟩ := kill_get e
    obtain ⟨v, h1, h2⟩ := ok.slot i r g1
    refine ⟨v, h1, ?_⟩
    cases r with
    | imm d => exact h2
    | own o =>
      obtain ⟨a, rfl, k1, k2, k3⟩ := h2
      have q : a ≠ b0 := fun q => by rw [q] at k2; exact i1 k2
      exact ⟨a, rfl, k1, by rw [e1 a q]; exact k2, obAt_mono (Same.refl _) (upd_ne q) k3⟩
    | brw o =>
      obtain ⟨a, rfl, k1, k2, k3⟩ := h2
      have q : a ≠ b0 := fun q => i3 (by rw [← q]; exact k2)
      exact ⟨a, rfl, k1, k2, obAt_mono (Same.refl _) (upd_ne q) k3⟩
    | nst tp ps => exact absurd rfl (g2 tp ps)
theorem nAdr_get : ∀ {ps : List (D ⊕ OB)} {vs : List V} {j : Nat} {o : OB}, Paired (nAt M F H) ps vs → ps[j]? = some (.inr o) → ∃ b, vs[j]? = some (.ref b) ∧ b ∈ nAdr ps vs ∧ obAt M F H o b
  | [], _, _, _, .nil, e => by simp at e
  | p :: ps, v :: vs, 0, o, .cons h1 h2, e => by
    simp at e
    subst e
    obtain ⟨b, rfl, h1⟩ := h1
    exact ⟨b, rfl, List.mem_cons_self .., h1⟩
  | p :: ps, v :: vs, j + 1, o, .cons h1 h2, e => by
    obtain ⟨b, k1, k2, k3⟩ := nAdr_get h2 (by simpa using e)
    refine ⟨b, by simpa using k1, ?_, k3⟩
    cases p with
    | inl d => cases v <;> exact k2
    | inr o' => obtain ⟨b', rfl, _⟩ := h1; exact List.mem_cons_of_mem _ k2
theorem nAdr_set {o' : OB} : ∀ {ps : List (D ⊕ OB)} {vs : List V} {j : Nat} {o : OB}, ps[j]? = some (.inr o) → nAdr (ps.set j (.inr o')) vs = nAdr ps vs
  | [], _, _, _, e => by simp at e
  | p :: ps, [], 0, o, e => by simp at e; subst e; rfl
  | p :: ps, v :: vs, 0, o, e => by
    simp at e
    subst e
    cases v <;> rfl
  | p :: ps, [], j + 1, o, e => by cases p <;> rfl
  | p :: ps, v :: vs, j + 1, o, e => by
    have ih := nAdr_set (o' := o') (ps := ps) (vs := vs) (j := j) (o := o) (by simpa using e)
    rw [List.set_cons_succ]
    cases p with
    | inl d => cases v <;> exact ih
    | inr q => cases v with
      | ref b => exact congrArg (b :: ·) ih
      | _ => exact ih
theorem nAt_put {u : HO} {b0 : Addr} : ∀ {ps : List (D ⊕ OB)} {vs : List V} {j : Nat} {o o' : OB}, Paired (nAt M F H) ps vs → (nAdr ps vs).Nodup → ps[j]? = some (.inr o) → vs[j]? = some (.ref b0) → obAt M F (upd H b0 u) o' b0 → Paired (nAt M F (upd H b0 u)) (ps.set j (.inr o')) vs
  | [], _, _, _, _, .nil, _, e, _, _ => by simp at e
  | p :: ps, v :: vs, 0, o, o', .cons h1 h2, nd, e, ev, h => by
    simp at e ev
    subst e; subst ev
    have nd : (b0 :: nAdr ps vs).Nodup := nd
    rw [List.nodup_cons] at nd
    exact .cons ⟨b0, rfl, h⟩ (nAts_mono (Same.refl _) (fun b hb => upd_ne fun q => nd.1 (q ▸ hb)) h2)
  | p :: ps, v :: vs, j + 1, o, o', .cons h1 h2, nd, e, ev, h => by
    have e : ps[j]? = some (.inr o) := by simpa using e
    have ev : vs[j]? = some (.ref b0) := by simpa using ev
    obtain ⟨b, k1, k2, _⟩ := nAdr_get h2 e
    rw [ev] at k1; cases k1
    have nd2 : (nAdr ps vs).Nodup ∧ ∀ o b, p = .inr o → v = .ref b → b ≠ b0 := by
      cases p with
      | inl d => cases v <;> exact ⟨nd, fun _ _ z => by cases z⟩
      | inr q =>
        obtain ⟨b, rfl, _⟩ := h1
        have nd : (b :: nAdr ps vs).Nodup := nd
        rw [List.nodup_cons] at nd
        exact ⟨nd.2, fun _ b' _ z q => by cases z; subst q; exact nd.1 k2⟩
    rw [List.set_cons_succ]
    refine .cons ?_ (nAt_put h2 nd2.1 e ev h)
    cases p with
    | inl d => exact h1
    | inr q =>
      obtain ⟨b, rfl, h1⟩ := h1
      exact ⟨b, rfl, obAt_mono (Same.refl _) (upd_ne (nd2.2 _ _ rfl rfl)) h1⟩
def getN (δ : Sl) (i : Nat) (k : Int) : Option (Bool × List (D ⊕ OB) × Nat × List D) := match δ[i]? with
  | some (some (.nst tp ps)) => (L2.ixN ps.length k).bind fun j => match ps[j]? with
    | some (.inr (.l ds)) => some (tp, ps, j, ds)
    | _ => none
  | _ => none
def hasN (δ : Sl) (i : Nat) : Bool := match δ[i]? with
  | some (some (.nst _ _)) => true
  | _ => false
def sMutN (i : Nat) (fi : FD) (m : List D → List D → Option (D × List D)) (fa : FA) (g : FS) : FS := fun δ => if hasN δ i then (fi δ).bindS fun k δ1 => match k with
  | .int k => (match getN δ1 i k with
    | none => .bad
    | some _ => (fa δ1).bindS fun as δ2 => match getN δ2 i k with
      | none => .bad
      | some (tp, ps, j, ds) => (match m ds as with
        | none => .bad
        | some (_, ds') => g ((killN δ2).set i (some (.nst tp (ps.set j (.inr (.l ds'))))))))
  | _ => .bad else .bad
theorem getN_some {i : Nat} {k : Int} {tp : Bool} {ps : List (D ⊕ OB)} {j : Nat} {ds : List D} (e : getN δ i k = some (tp, ps, j, ds)) : δ[i]? = some (some (.nst tp ps)) ∧ L2.ixN ps.length k = some j ∧ ps[j]? = some (.inr (.l ds)) := by
  unfold getN at e
  split at e
  · rename_i tp' ps' q
    obtain ⟨j', e1, e2⟩ := Option.bind_eq_some_iff.mp e
    split at e2
    · rename_i ds' q2
      cases e2
      exact ⟨q, e1, q2⟩
    · cases e2
  · cases e
theorem Ok.setNst {c' : Cn M} (ok : Ok c' F H σ δ) {i : Nat} {a : Addr} {vs : List V} {tp : Bool} {ps : List (D ⊕ OB)} (hσ : σ[i]? = some (some (.ref a))) (hnd : c'.nd = some (a, vs, nOwn tp ps a vs)) (n : NAt M F c'.H0 tp ps a vs) : Ok c' F H σ (δ.set i (some (.nst tp ps))) where
  same := ok.same
  grow := ok.grow
  nofz := ok.nofz
  kept := ok.kept
  ioh := ok.ioh
  tb := ok.tb
  len := by simp [ok.len]
  slot := fun j r e => by
    rcases getElem?_set_some e with ⟨rfl, e1, _⟩ | ⟨_, e1⟩
    · cases e1; exact ⟨_, hσ, a, vs, rfl, hnd, n⟩
    · exact ok.slot j r e1
  dist := fun j k r r' v hjk e1 e2 m1 m2 s1 s2 => by
    have f : ∀ {j : Nat} {r : R}, (δ.set i (some (.nst tp ps)))[j]? = some (some r) → r.mu = true → δ[j]? = some (some r) := fun h m => by
      rcases getElem?_set_some h with ⟨rfl, z, _⟩ | z
      · cases z; cases m
      · exact z.2
    exact ok.dist j k r r' v hjk (f e1 m1) (f e2 m2) m1 m2 s1 s2
theorem dns_mut {o ie e : Expr} {es : List Expr} {ss : List Stmt} {call : Expr} {i kk : Nat} {fi : FD} {r : RM} {m : List D → List D → Option (D × List D)} {fa : FA} {g : FS} {ipos pos : Pos}
    (pe : ∀ {to : TE} {t : TA}, PE X (.Subscript o ie ipos) to → PA X (e :: es) t → PE X call (tBM X.K "list" r to t)) (ho : PE X o (tVar i)) (hi : DI M W X ie fi) (ha : DA M W X (e :: es) fa) (hd : MutD M r m) (hr : Room kk X.A) (h' : DNs M W X ss g)
    (hs0 : PlainIx ie := by intro _ _; rfl) (hK : X.K = M.K := by rfl) (hs : swapsWith call none pos.line X.env = pure false := by rfl) : DNs M W X (.Expr call pos :: ss) (sMutN i fi m fa g) := by
  obtain ⟨ti, pi, hi⟩ := hi
  obtain ⟨ta, pa, ha⟩ := ha
  obtain ⟨t', p', h'⟩ := h'
  refine ⟨_, pss_cons (ps_expr (pe (pe_ix (ix_all hK (hu_of hr)) ho pi hs0) pa) hs) p', fun c c' F H σ δ E l hz ok post => ?_⟩
  unfold sMutN at post
  split at post
  · rename_i hn
    obtain ⟨v, hv⟩ : ∃ v, σ[i]? = some (some v) := by
      unfold hasN at hn
      split at hn
      · rename_i q
        obtain ⟨v, h1, _⟩ := ok.slot i _ q
        exact ⟨v, h1⟩
      · cases hn
    refine ⟨v, hv, hi c' F H σ δ _ ok ?_⟩
    cases q1 : fi δ with
    | bad => rw [q1] at post; exact post.elim
    | exc x δ1 =>
      rw [q1] at post
      exact fun cls d F' H' s ok' xa => post cls d F' H' σ s (ok'.weak l) xa
    | ok k δ1 =>
      rw [q1] at post
      intro y F1 H1 s1 ok1 ry
      rw [Res.bindS_ok] at post
      split at post
      · rename_i k
        have ey : y = .int k := by have z : rep M F1 (.int k) y := ry; unfold rep at z; exact z
        subst ey
        split at post
        · exact post.elim
        · rename_i z0 g0
          obtain ⟨tp, ps, j, ds0⟩ := z0
          obtain ⟨b1, b2, b3⟩ := getN_some g0
          obtain ⟨v', hv', a, vs, rfl, hnd, n⟩ := ok1.slot i _ b1
          rw [hv] at hv'; cases hv'
          have lps : ps.length = vs.length := Paired.length n.pts
          obtain ⟨b, c1, c2, ⟨ws, c3, c4⟩⟩ := nAdr_get n.pts b3
          have hb : b ∈ nOwn tp ps a vs := by unfold nOwn; split; exact c2; exact List.mem_cons_of_mem _ c2
          obtain ⟨i1, i2, i3⟩ := c'.ndh _ hnd b hb
          have hH1 : H1 b = some (.lst ws) := ok1.kept b _ c3 i3
          have hat : L2.atI vs k = some (.ref b) := by unfold L2.atI; rw [← lps, b2]; exact c1
          have fin : ∀ {H1' : Hp} (Q : VK), (tyV X.K "list" (.ref b) H1' ∧ Q (.ref b) H1') → True := fun _ _ => trivial
          have main : tyV X.K "list" (.ref b) H1 ∧ ta σ H1 fun xs H2 => r (.ref b) xs H2 fun _ H3 => t' E σ H3 := by
            refine ⟨.inl ⟨rfl, ws, SqL.of hH1⟩, ha c' F1 H1 σ δ1 _ ok1 ?_⟩
            cases q2 : fa δ1 with
            | bad => rw [q2] at post; exact post.elim
            | exc x δ2 =>
              rw [q2] at post
              exact fun cls d F' H' s ok' xa => post cls d F' H' σ (s1.trans s) (ok'.weak l) xa
            | ok as δ2 =>
              rw [q2] at post
              intro xs F2 H2 s2 ok2 rx
              rw [Res.bindS_ok] at post
              split at post
              · exact post.elim
              · rename_i tp2 ps2 j2 ds g2
                split at post
                · exact post.elim
                · rename_i zz ds' q3
                  obtain ⟨d1, d2, d3⟩ := getN_some g2
                  obtain ⟨v2, hv2, a2, vs2, rfl, hnd2, n2⟩ := ok2.slot i _ d1
                  rw [hv] at hv2; cases hv2
                  rw [hnd] at hnd2
                  have hz2 := Option.some.inj hnd2
                  have ev : vs2 = vs := (congrArg (fun z => z.2.1) hz2).symm
                  subst ev
                  have eo : nOwn tp2 ps2 a vs2 = nOwn tp ps a vs2 := (congrArg (fun z => z.2.2) hz2).symm
                  have l2 : ps2.length = vs2.length := Paired.length n2.pts
                  have ej : j2 = j := by rw [l2, ← lps, b2] at d2; exact (Option.some.inj d2).symm
                  subst ej
                  obtain ⟨b', e1, e2, ⟨ws', e3, e4⟩⟩ := nAdr_get n2.pts d3
                  rw [c1] at e1; cases e1
                  rw [c3] at e3; cases e3
                  refine hd F2 H2 b ws xs ds as zz ds' _ ok2.same (ok2.nofz b i1 i2) (ok2.kept b _ c3 i3) e4 rx q3 fun w vs3 _ r3 => ?_
                  obtain ⟨l3, ok3⟩ := Ok.putN l ok2 hnd hb (hz _ hnd b hb) (u := .lst vs3) rfl
                  refine h' c (c'.putN b (.lst vs3) rfl) F2 _ σ _ E l3 (fun z e => hz z e) (ok3.setNst (a := a) (vs := vs2) hv ?_ ?_) (PostS.shift (PostS.shift post s1) s2)
                  · show c'.nd = _
                    rw [hnd, ← eo]
                    unfold nOwn
                    rw [nAdr_set d3]
                  · have nn : NAt M F2 (upd c'.H0 b (.lst vs3)) tp2 (ps2.set j2 (.inr (.l ds'))) a vs2 := by
                      refine ⟨?_, nAt_put n2.pts ?_ d3 c1 ⟨vs3, upd_same, r3⟩, ?_⟩
                      · have t := n2.top
                        have nd := n2.nod
                        cases tp2 with
                        | true => simp only [if_true] at t ⊢; exact t
                        | false =>
                          simp only [Bool.false_eq_true, if_false] at t ⊢
                          have nd : (a :: nAdr ps2 vs2).Nodup := nd
                          rw [List.nodup_cons] at nd
                          have nq : a ≠ b := fun q => nd.1 (by rw [q]; exact e2)
                          rw [upd_ne nq]; exact t
                      · have nd := n2.nod
                        cases tp2 with
                        | true => exact nd
                        | false => exact (List.nodup_cons.mp nd).2
                      · have nd := n2.nod
                        unfold nOwn at nd ⊢
                        rw [nAdr_set d3]; exact nd
                    exact nn
          cases tp with
          | false =>
            have t := n.top
            simp only [Bool.false_eq_true, if_false] at t
            have ha' : a ∈ nOwn false ps a vs := List.mem_cons_self ..
            exact .inl (.inl ⟨a, vs, k, .ref b, rfl, rfl, SqL.of (ok1.kept a _ t (c'.ndh _ hnd a ha').2.2), hat, main⟩)
          | true =>
            have t := n.top
            simp only [if_true] at t
            exact .inl (.inr (.inl ⟨a, vs, k, .ref b, rfl, rfl, SqT.of (ok1.same _ _ t), hat, main⟩))
      · exact post.elim
  · exact post.elim
theorem dns_append {o ie e : Expr} {ss : List Stmt} {i kk : Nat} {fi : FD} {fa : FA} {g : FS} {ipos apos cpos pos : Pos} (ho : PE X o (tVar i)) (hi : DI M W X ie fi) (ha : DA M W X [e] fa) (hr : Room kk X.A) (h' : DNs M W X ss g)
    (hb : attributeBase (.Subscript o ie ipos) "append" X.env (eval (.Subscript o ie ipos) X.env) = eval (.Subscript o ie ipos) X.env := by rfl)
    (h2 : ((backTo cpos (starEach (e :: []) X.env)).all (fun x => !x.1) && (backToKw cpos (keywordEach [] X.env)).all (fun x => x.1.isSome) && decide ((e :: ([] : List Expr)).length + ([] : List Keyword).length + (if ([] : List Keyword).isEmpty then 0 else 1) < 30)) = true := by rfl)
    (hl : (apos.endLine == cpos.line) = true := by rfl) (he : starEach (e :: []) X.env = (false, eval e X.env) :: starEach [] X.env := by rfl) (hpl : ((backTo cpos (starEach [] X.env)).any fun x => x.fst) = false := by rfl)
    (hs0 : PlainIx ie := by intro _ _; rfl) (hK : X.K = M.K := by rfl) (hs : swapsWith (.Call (.Attribute (.Subscript o ie ipos) "append" apos) [e] [] cpos) none pos.line X.env = pure false := by rfl) :
    DNs M W X (.Expr (.Call (.Attribute (.Subscript o ie ipos) "append" apos) [e] [] cpos) pos :: ss) (sMutN i fi mAppend fa g) :=
  dns_mut (fun h h' => pe_bm PySem.F.plainAttrs_list PySem.F.slot_list_append PySem.F.type_list_append mt_append h h' hb h2 hl he hpl) ho hi ha md_append hr h' hs0 hK hs
def frzN (f : FE) : FD := fun δ => (f δ).bind fun r δ1 => match r with
  | .nst tp ps => if ps.all pL then .ok (nstD tp ps) δ1 else .bad
  | .imm d => .ok d δ1
  | .own o => .ok o.toD δ1
  | .brw _ => .bad
theorem freezeN (ok : Ok c F H σ δ) {tp : Bool} {ps : List (D ⊕ OB)} {v : V} (hp : ps.all pL = true) (r : repR c F H σ δ (.nst tp ps) v) : ∃ F', Same F F' ∧ Ok c F' H σ δ ∧ rep M F' (nstD tp ps) v := by
  obtain ⟨a, vs, rfl, n, hn⟩ := r
  let F' : Hp := fun b => match F b with
    | some o => some o
    | none => if b ∈ nOwn tp ps a vs then H b else none
  have g : Same F F' := fun b o e => by show (match F b with | some o => some o | none => if b ∈ nOwn tp ps a vs then H b else none) = _; rw [e]
  have ey : ∀ b, b ∈ nOwn tp ps a vs → F' b = H b := fun b hb => by
    show (match F b with | some o => some o | none => if b ∈ nOwn tp ps a vs then H b else none) = _
    rw [(hn b hb).1]; exact if_pos hb
  have en : ∀ b, b ∉ nOwn tp ps a vs → F b = none → F' b = none := fun b hb h => by
    show (match F b with | some o => some o | none => if b ∈ nOwn tp ps a vs then H b else none) = _
    rw [h]; exact if_neg hb
  have es : ∀ b, F' b = F b ∨ F' b = H b ∧ b ∈ nOwn tp ps a vs := fun b => by
    by_cases hb : b ∈ nOwn tp ps a vs
    · exact .inr ⟨ey b hb, hb⟩
    · cases h : F b with
      | none => exact .inl (en b hb h)
      | some o => exact .inl (g b o h)
  have n2 : NAt M F' F' tp ps a vs := n.mono g ey
  refine ⟨F', g, ⟨fun b o e => ?_, ok.grow.trans g, fun b e1 e2 => ?_, ok.kept, ok.ioh, ?_, ok.len, fun i r e => ?_, ok.dist⟩, ?_⟩
  · rcases es b with h | ⟨h, _⟩
    · rw [h] at e; exact ok.same b o e
    · rw [h] at e; exact e
  · exact en b (fun hb => e1 (hn b hb).2.1) (ok.nofz b e1 e2)
  · refine ok.tb.keep (fun _ _ e _ => e) (fun b o e z h => en b (fun hb => ?_) h) fun b ps' e => ?_
    · obtain ⟨u, h1, h2⟩ := n.nt hb
      rw [e] at h1; cases h1; exact z h2.tt
    · rcases es b with h | ⟨h, hb⟩
      · rw [h] at e; exact ok.tb.nt b ps' e
      · obtain ⟨u, h1, h2⟩ := n.nt hb
        rw [h, h1] at e; cases e; cases h2
  · obtain ⟨v, e1, e2⟩ := ok.slot i r e
    refine ⟨v, e1, ?_⟩
    cases r with
    | imm d => exact rep_mono g _ _ e2
    | own o =>
      obtain ⟨b, rfl, k1, k2, k3⟩ := e2
      exact ⟨b, rfl, en b (fun hb => (hn b hb).2.2 i _ e rfl e1) k1, k2, obAt_mono g rfl k3⟩
    | brw o =>
      obtain ⟨b, rfl, k1, k2, k3⟩ := e2
      exact ⟨b, rfl, en b (fun hb => (hn b hb).2.2 i _ e rfl e1) k1, k2, obAt_mono g rfl k3⟩
    | nst _ _ => exact slot_nst g e2
  · have key : ∀ {ps : List (D ⊕ OB)} {vs : List V}, ps.all pL = true → Paired (nAt M F' F') ps vs → reps M F' (ps.map pD) vs := fun {ps vs} hp h => by
      induction h with
      | nil => exact reps_nil
      | @cons p v ps vs h1 h2 ih =>
        simp only [List.all_cons, Bool.and_eq_true] at hp
        cases p with
        | inl d => exact reps_cons h1 (ih hp.2)
        | inr o =>
          obtain ⟨b, rfl, h1⟩ := h1
          have hd : o.dic = false := by have := hp.1; unfold pL at this; simpa using this
          exact reps_cons (obAt_rep hd h1) (ih hp.2)
    have r := key hp n2.pts
    have t := n2.top
    unfold nstD
    cases tp with
    | true => simp only [if_true] at t ⊢; unfold rep; exact ⟨a, vs, rfl, t, r⟩
    | false => simp only [Bool.false_eq_true, if_false] at t ⊢; unfold rep; exact ⟨a, vs, rfl, t, r⟩
theorem DE.frzN {e : Expr} {f : FE} (h : DE M W X e f) : DI M W X e (TS.frzN f) := by
  obtain ⟨t, p, h⟩ := h
  refine ⟨_, pe_lks p, fun c F H σ δ Q ok post => h c F H σ δ (fun v H' => LkS (Q v) H') ok (Post.bind post fun r δ1 v F1 H1 _ s ok1 rr post => ?_)⟩
  cases r with
  | imm d => exact .now (post.ok ok1 rr)
  | own o => exact (ok1.freeze rr).mono fun H2 ⟨F', g, ok', r'⟩ => post v F' H2 g ok' r'
  | brw o => exact post.elim
  | nst tp ps =>
    dsimp only at post
    split at post
    · rename_i hp
      obtain ⟨F', g, ok2, r2⟩ := freezeN ok1 hp rr
      exact .now (post v F' H1 g ok2 r2)
    · exact post.elim
end
end
end TS

namespace TS
open PySem L2
noncomputable section
section
variable {X : Cx} {M : Gm} {W : WX} {a b : Expr} {fa fb : FD} {pos : Pos} {k : Nat}
end
end
end TS

namespace TS
open PySem L2
noncomputable section
mutual
def toPt : D → Option PyData
  | .non => some .none
  | .bl b => some (.bool b)
  | .int i => some (.int i)
  | .str x => some (.str x)
  | .lst ds => (toPts ds).map PyData.list
  | .tup ds => (toPts ds).map PyData.tuple
  | .ktp ns => some (.tuple (ns.map PyData.int))
  | .dK ks ds => (toPts ds).map fun ps => PyData.dict ((ks.map kP).zip ps)
  | .dT ks ds => (toPts ds).map fun ps => PyData.dict ((ks.map fun k => PyData.tuple (k.map kP)).zip ps)
  | _ => none
def toPts : List D → Option (List PyData)
  | [] => some []
  | d :: ds => (toPt d).bind fun p => (toPts ds).map fun ps => p :: ps
end
section
variable {M : Gm} {F H : Hp} {X : Cx} {pins : List (Addr × Obj)} {σ : St} {s : Shared}
end
def gReprT (d : D) : Option Str := match toPt d with
  | some p => if shOkD p then some p.shown else none
  | none => none
def fReprT (fa : FD) : FD := fun δ => (fa δ).bind fun d δ1 => match gReprT d with
  | some x => .ok (.str x) δ1
  | none => .bad
section
variable {X : Cx} {M : Gm} {W : WX} {e : Expr} {fa : FD} {p pos : Pos}
end
end
end TS

namespace TS
open PySem PySem.Spec PyProof.Rows L2
noncomputable section
def zip3D : List D → List D → List D → List D
  | a :: as, b :: bs, c :: cs => .tup [a, b, c] :: zip3D as bs cs
  | _, _, _ => []
section
variable {M : Gm} {W : WX} {X : Cx} {F : Hp}
def itZip3 (f g h : FD) : FA := fun δ => (f δ).bind fun d δ => (g δ).bind fun d' δ => (h δ).bind fun d'' δ => match d, d', d'' with
  | .lst m, .lst n, .lst k => .ok (zip3D m n k) δ
  | _, _, _ => .bad
end
end
end TS

namespace TS
open PySem L2
noncomputable section
def nSlot : D ⊕ OB → R
  | .inl d => .imm d
  | .inr o => .own o
def tTup2N (i j : Nat) : R → Sl → SR := fun r δ => match r with
  | .nst true [x, y] => if i = j then .bad else .nx ((δ.set i (some (nSlot x))).set j (some (nSlot y)))
  | _ => .bad
section
variable {M : Gm} {W : WX} {X : Cx} {c : Cn M} {F H : Hp} {σ : St} {δ : Sl}
end
end
end TS

namespace TS
open PySem L2 PySem.Spec PyProof.Rows
noncomputable section
structure LamS1 (sc scope : Scope) (z : Str) : Prop where
  kind : scope.kind = .function
  co : scope.isCoroutine = false
  gen : scope.isGenerator = false
  par : scope.names.lookup z = some .local
  cel : ∀ y ∈ scope.names, y.2 ≠ .cell
  own : ∀ y : Str, scope.names.lookup y = some .local → y = z
  free : ∀ y ∈ scope.names, y.2 = .free → sc.names.lookup y.1 = some .cell ∨ sc.names.lookup y.1 = some .free
theorem LamS1.has {X : Cx} {scope : Scope} {z : Str} (L : LamS1 X.env.scope scope z) (ok : X.Ok) : ∀ y ∈ scope.names, y.2 = .free → ∃ c, X.env.cells.lookup y.1 = some c := fun y hy e => by
  rcases L.free y hy e with k | k
  · exact ok.has _ (.inl k)
  · exact ok.has _ (.inr k)
section
variable {X : Cx} {pins : List (Addr × Obj)} {σ : L2.St} {H HZ : Hp} {s s1 : Shared}
end
section
variable {X : Cx} {W : WX} {M : Gm}
end
end
end TS

namespace TS
open PySem L2
noncomputable section
section
variable {X : Cx} {M : Gm} {W : WX}
end
end
end TS

namespace TS
open PySem L2
noncomputable section
structure RoomQ (k : Nat) (A : Around) : Prop where
  dp : A.depth + 3 * k + 5 < recursionLimit
  un : A.units + 16 * k + 200 < cLine
  gu : A.guards = some []
theorem RoomQ.mono {j k : Nat} {A : Around} (r : RoomQ k A) (h : j ≤ k) : RoomQ j A := ⟨by have := r.dp; omega, by have := r.un; omega, r.gu⟩
theorem RoomQ.deeper {k : Nat} {A : Around} (r : RoomQ (k + 1) A) (env : Env) : RoomQ k (A.deeper env) :=
  ⟨by have := r.dp; show A.depth + 1 + 3 * k + 5 < _; omega, by have := r.un; show A.units + 3 + 16 * k + 200 < _; omega, r.gu⟩
theorem RoomQ.in1 {k : Nat} {A : Around} (r : RoomQ (k + 1) A) : RoomQ k A.in1 :=
  ⟨by have := r.dp; show A.depth + 3 * k + 5 < _; omega, by have := r.un; show A.units + 1 + 16 * k + 200 < _; omega, r.gu⟩
theorem RoomQ.depth {k : Nat} {A : Around} (r : RoomQ k A) : A.depth < recursionLimit := by have := r.dp; omega
theorem RoomQ.of {k : Nat} {A A0 : Around} (r : Room k A0) (e0 : A.depth = A0.depth) (e1 : A.units = A0.units) (e2 : A.guards = A0.guards) : RoomQ k A := ⟨by rw [e0]; exact r.lo.dp, by rw [e1]; exact r.lo.un, by rw [e2]; exact r.gu⟩
def FnRQ (P : Program) (w : World) (K : PySem.W.Frag) (mg : Str → Option Value) (base : Heap) (CX : CXT) (k : Nat) (f : Addr) (sp : Sp) : Prop :=
  ∀ (A : Around) (outer : List Env) (s : Shared) (H : Hp) (us : List Value) (vs : List V) (Q : VK) (E : XK), RoomQ k A → Env0 P w K mg base A outer s H → Vals vs us → sp vs H Q E → codeAny (model P w) A (.call (.ref f) ⟨us, []⟩) (CR CX outer P w H s Q E) s
theorem FnRQ.mono {P : Program} {w : World} {K : PySem.W.Frag} {mg : Str → Option Value} {base : Heap} {CX : CXT} {j k : Nat} {f : Addr} {sp : Sp} (F : FnRQ P w K mg base CX j f sp) (h : j ≤ k) : FnRQ P w K mg base CX k f sp := fun A outer s H us vs Q E hr e0 => F A outer s H us vs Q E (hr.mono h) e0
section
variable {P : Program} {w : World} {K : PySem.W.Frag} {mg : Str → Option Value} {base : Heap} {CX : CXT} {j k : Nat} {f : Addr} {fd : FuncData} {ps : List Str} {sp : Sp}
end
section
variable {X : Cx} {M : Gm} {W : WX} {e : Expr} {fe : FD} {p pos : Pos}
variable {q : Cau}
end
end
end TS

namespace TS
open PySem L2 PySem.W PySem.Spec PyProof.Rows
noncomputable section
def EnSt (h : Heap) (e it l S : Addr) (i : Nat) : Prop :=
  h.IsListIter it l i ∧ e ≠ it ∧ ((∃ old, IsEnum h e it ((i : Nat) : Int) old) ∨ ∃ old T f oT, IsEnumHeld h e it ((i : Nat) : Int) old T f ∧ h.get? T = some oT ∧ T ≠ e ∧ T ≠ it ∧ T ≠ S)
theorem EnSt.keep {h h' : Heap} {e it l S : Addr} {i : Nat} (x : EnSt h e it l S i) (hk : ∀ b o, b ≠ S → h.get? b = some o → h'.get? b = some o) (hI : it ≠ S) (hE : e ≠ S) : EnSt h' e it l S i := by
  obtain ⟨h1, h2, h3⟩ := x
  refine ⟨h1.at fun o q => hk it o hI q, h2, ?_⟩
  rcases h3 with ⟨old, q⟩ | ⟨old, T, f, oT, q, a, b, c, d⟩
  · exact .inl ⟨old, hk _ _ hE q⟩
  · exact .inr ⟨old, T, f, oT, hk _ _ hE q, hk _ _ d a, b, c, d⟩
section
variable {prog : Program} {w : World} {A : Around} {E : Value → Shared → Prop} {s : Shared}
end
section
variable {prog : Program} {w : World} {A : Around} {s : Shared} {R : Result → Shared → Prop} {us : List Value}
end
section
variable {prog : Program} {w : World} {A : Around} {E : Value → Shared → Prop} {s : Shared} {us : List Value} {e it l : Addr}
end
section
variable {X : Cx} {a : Expr} {ta : TE} {p q2 pos pos2 : Pos}
variable {M : Gm} {W : WX}
def fLEnum (f : FD) : FE := fun δ => (f δ).bind fun d δ => match d with
  | .lst ds => .ok (.own (.l (enumD 0 ds))) δ
  | _ => .bad
end
end
end TS

namespace TS
open PySem L2
noncomputable section
section
variable {M : Gm} {c : Cn M} {W : WX} {X : Cx} {tg e : Expr} {F F1 H H1 : Hp} {σ σ2 : L2.St} {δ : Sl}
def Unal (σ : L2.St) (δ : Sl) (p : Addr) : Prop := ∀ (i : Nat) (r : R), δ[i]? = some (some r) → r.mu = true → σ[i]? ≠ some (some (V.ref p))
theorem wipeD_outN : ∀ {vs : List Nat} {i : Nat} {δ : Sl}, i ∉ vs → (wipeD δ vs)[i]? = δ[i]?
  | [], _, _, _ => rfl
  | v :: vs, i, δ, h => by
    simp only [List.mem_cons, not_or] at h
    unfold wipeD
    rw [List.getElem?_set_ne (Ne.symm h.1)]
    exact wipeD_outN h.2
theorem Unal.wipe {vs : List Nat} {p : Addr} (hw : L2.wipe σ2 vs = L2.wipe σ vs) (h : Unal σ2 δ p) : Unal (L2.wipe σ vs) (wipeD δ vs) p := fun i r e m z => by
  rw [← hw] at z
  obtain ⟨z1, z2⟩ := wipe_some z
  rw [wipeD_outN z2] at e
  exact h i r e m z1
end
section
variable {M : Gm} {W : WX} {X : Cx} {tg : Expr}
end
end
end TS

namespace TS
open PySem L2 PySem.W PySem.Spec PyProof.Rows
noncomputable section
section
variable {prog : Program} {w : World} {A : Around} {E : Value → Shared → Prop} {s : Shared} {r d : Addr} {es : Array DictEntry} {ep : Nat}
end
section
variable {X : Cx} {e : Expr} {td : TE} {p apos cpos pos : Pos}
variable {M : Gm} {W : WX}
def fLItems (f : FD) : FE := fun δ => (f δ).bind fun d δ => match d with
  | .dK ks ds => .ok (.own (.l (zipD (ks.map keyD) ds))) δ
  | .dT ks ds => .ok (.own (.l (zipD (ks.map keysD) ds))) δ
  | _ => .bad
end
end
end TS

namespace TS
open PySem L2 PySem.Spec PyProof.Rows
noncomputable section
section
variable {prog : Program} {w : World} {K : Type} [DecidableEq K] {knd : HeapKind prog w K}
end
section
variable {X : Cx} {pins : List (Addr × Obj)} {σ : L2.St} {H : Hp} {s : Shared} {a b : Addr} {kvs : List (List Key × V)} {k : List Key} {v : V}
end
section
variable {X : Cx} {o e : Expr} {apos cpos : Pos} {td ty : TE}
variable {M : Gm} {W : WX}
def dropD {κ : Type} [DecidableEq κ] (k : κ) : List κ → List D → List κ × List D
  | k' :: ks, d :: ds => if k' = k then dropD k ks ds else (k' :: (dropD k ks ds).1, d :: (dropD k ks ds).2)
  | _, _ => ([], [])
def popOB : OB → D → Option (D × OB)
  | .dK ks ds, k => (keyOf k).bind fun k => (lookD ks ds k).map fun d => (d, .dK (dropD k ks ds).1 (dropD k ks ds).2)
  | .dT ks ds, .tup kds => (keysOf kds).bind fun k => (lookD ks ds k).map fun d => (d, .dT (dropD k ks ds).1 (dropD k ks ds).2)
  | _, _ => none
def dicO : OB → Bool
  | .dK _ _ => true
  | .dT _ _ => true
  | _ => false
def dicR (δ : Sl) (x : Nat) : Bool := match δ[x]? with
  | some (some (.own o)) => dicO o
  | some (some (.brw o)) => dicO o
  | _ => false
def fPopD (x : Nat) (fi : FD) : FD := fun δ => if dicR δ x then (fi δ).bind fun i δ1 => match δ1[x]? with
  | some (some (.own o)) => (match popOB o i with
    | some (d, o') => .ok d (δ1.set x (some (.own o')))
    | none => .bad)
  | some (some (.brw o)) => (match popOB o i with
    | some (d, o') => .ok d (δ1.set x (some (.brw o')))
    | none => .bad)
  | _ => .bad else .bad
end
end
end TS

namespace TS
open PySem L2
noncomputable section
section
variable {M : Gm} {F : Hp}
end
section
variable {M : Gm} {P : Program} {w : World} {mg : Str → Option Value} {base : Heap} {k n : Nat} {ks ps : List Str} {f : Addr} {fm : Fm} {fd : FuncData} {ix : List Nat} {dd : List D} {mz : List V} {mv : List Value}
end
end
end TS

namespace TS
open PySem L2 PyProof.Rows
noncomputable section
section
variable {M : Gm} {F H : Hp}
end
section
variable {X : Cx} {a : Expr} {ta : TE}
end
section
variable {M : Gm} {c : Cn M}
end
section
variable {X : Cx} {o e : Expr} {apos cpos : Pos} {to te : TE}
end
section
variable {X : Cx} {W : WX} {M : Gm}
end
end
end TS

namespace TS
open PySem L2
noncomputable section
def thkO (fb : FE) (δ : Sl) : Res (List D) := match fb (immP δ) with
  | .ok (.own (.l ds)) _ => .ok ds []
  | .exc x _ => .exc x []
  | _ => .bad
def fResO (i : Nat) (res : Res (List D)) : FE := fun δ => match δ[i]? with
  | some (some (.imm .lam)) => (match res with
    | .ok ds _ => .ok (.own (.l ds)) δ
    | .exc x _ => .exc x δ
    | .bad => .bad)
  | _ => .bad
def noLamP : D ⊕ OB → Bool
  | .inl d => noLam d
  | .inr o => noLam o.toD
def outLO (r : FR) (δ : Sl) : Res R := match r with
  | .ok (.imm d) _ => if noLam d then .ok (.imm d) δ else .bad
  | .ok (.own o) _ => if noLam o.toD then .ok (.own o) δ else .bad
  | .ok (.nst tp ps) _ => if ps.all noLamP then .ok (.nst tp ps) δ else .bad
  | .exc x _ => if noLams x.vs then .exc x δ else .bad
  | _ => .bad
def fLamO (ixs : List Nat) (mt : Res (List D) → Fm) (fb : FE) : FE := fun δ => outLO (mt (thkO fb (frzS ixs δ)) none [.lam]) (frzS ixs δ)
section
variable {M : Gm} {F H : Hp} {L : Lm}
theorem nats_unl : ∀ {ps : List (D ⊕ OB)} {vs : List V}, ps.all noLamP = true → Paired (nAt (M.wl L) F H) ps vs → Paired (nAt M F H) ps vs
  | [], _, _, .nil => .nil
  | .inl d :: ps, v :: vs, h, .cons h1 h2 => by
    rw [List.all_cons, Bool.and_eq_true] at h
    exact .cons (rep_unl d v h.1 h1) (nats_unl h.2 h2)
  | .inr o :: ps, v :: vs, h, .cons h1 h2 => by
    rw [List.all_cons, Bool.and_eq_true] at h
    obtain ⟨b, e, h1⟩ := h1
    exact .cons ⟨b, e, obAt_unl h.1 h1⟩ (nats_unl h.2 h2)
theorem nat_unl {tp : Bool} {ps : List (D ⊕ OB)} {a : Addr} {vs : List V} (h : ps.all noLamP = true) (n : NAt (M.wl L) F H tp ps a vs) : NAt M F H tp ps a vs := ⟨n.top, nats_unl h n.pts, n.nod⟩
end
structure LamOkO (P : Program) (w : World) (M : Gm) (K : PySem.W.Frag) (mg : Str → Option Value) (base : Heap) (k : Nat) (x : Str) (g : Addr) (mt : Res (List D) → Fm) (qg : Str) (pg : Arguments) (bg : List Stmt) (sg : Scope) (fd : FuncData) (a : Str) (Ng : List Str) (gg : Res (List D) → FS) : Prop where
  fd_ : FunD K x qg pg bg sg [] [] g fd
  kp : PySem.W.keepIn K (.ref g) = true
  sc : FnScope Ng [a] sg
  bi : Binds K fd [a] []
  mt_ : ∀ r, mt r = mir Ng.length 1 (gg r)
  run : ∀ (L : Lm) (res : Res (List D)) (cdv : Value) (A : Around) (outer : List Env) (s : Shared) (H : Hp) (E : XK), TS.Room k (A.deeper (PyProof.Rows.envOfC qg sg s.heap.objs.size g cdv)) →
    Takes (cxOf (L2.CX P w) P w K mg base Ng qg sg g cdv A outer s H E) (fun cls d _ H => E cls d H) →
    PassesOwn (model P w) (A.deeper (PyProof.Rows.envOfC qg sg s.heap.objs.size g cdv)) (PyProof.Rows.envOfC qg sg s.heap.objs.size g cdv) (cxOf (L2.CX P w) P w K mg base Ng qg sg g cdv A outer s H E).xe →
    (∀ (W : WX) (pn : List (Addr × Obj)) (xe : Value → Shared → Prop) (p1 p2 : Pos), Takes ((cxOf (L2.CX P w) P w K mg base Ng qg sg g cdv A outer s H E).tr pn xe) W → DE (M.wl L) W ((cxOf (L2.CX P w) P w K mg base Ng qg sg g cdv A outer s H E).tr pn xe) (.Call (.Name a p1) [] [] p2) (fResO 0 res)) →
    DSs (M.wl L) (fun cls d _ H => E cls d H) (cxOf (L2.CX P w) P w K mg base Ng qg sg g cdv A outer s H E) bg (gg res)
section
variable {X : Cx} {W : WX} {M : Gm}
theorem act_deO {pins : List (Addr × Obj)} {s : Shared} {σ : L2.St} {H F0 F1 : Hp} {δ : Sl} {c : Cn M} {f c' g : Addr} {params : Arguments} {body : Expr} {scope : Scope} {pm ctv cdg : Value} {Ng : List Str} {qg : Str} {sg : Scope} {a : Str} {kb : Nat} {fb : FE} {EZ : XK} {L : Lm} {pn : List (Addr × Obj)} {xe : Value → Shared → Prop} {WZ : WX} {p1 p2 : Pos}
    (hM : M.lm = L0) (I : Inv X pins σ H s) (hS : LamX.LamS X.env.scope scope) (hf : s.heap.get? f = some (PySem.W.kla_obj "<lambda>" (X.env.qual ++ "<lambda>") params body scope (cloFrom X.env.cells scope.names []) pm c' ctv)) (hfn : H f = none) (hfr : f ∉ frs X.stack)
    (hbi : bindArgs (PySem.W.kla_fn "<lambda>" (X.env.qual ++ "<lambda>") params body scope (cloFrom X.env.cells scope.names []) pm (.ref c') ctv) ⟨[], []⟩ = pure [])
    (ok : Ok c F0 H σ δ) (g01 : Same F0 F1) (hc : F1 c' = some (LamX.CodeO c' (X.env.qual ++ "<lambda>"))) (hL : ∀ F v, L.p F v ↔ (v = V.ref f ∧ Same F1 F))
    (hr : TS.Room (kb + 1) (X.A.deeper (PyProof.Rows.envOfC qg sg s.heap.objs.size g cdg)))
    (tk : Takes ((cxOf (L2.CX X.prog X.w) X.prog X.w X.K X.mg X.base Ng qg sg g cdg X.A X.stack s H EZ).tr pn xe) WZ)
    (hbody : ∀ (A : Around) (outer : List Env) (s : Shared) (H : Hp) (E : XK), TS.Room kb (A.deeper (LamX.lamEnv X scope s.heap.objs.size f c')) → Takes (LamX.lamCx X A outer s H E scope f c') (fun cls d _ H => E cls d H) → DE M (fun cls d _ H => E cls d H) (LamX.lamCx X A outer s H E scope f c') body fb)
    (hN : Ng[0]? = some a) (hv : Vis sg a) (hd : (a == ("__debug__" : Str)) = false) (hcd : (a == ("__classdict__" : Str)) = false) :
    DE (M.wl L) WZ ((cxOf (L2.CX X.prog X.w) X.prog X.w X.K X.mg X.base Ng qg sg g cdg X.A X.stack s H EZ).tr pn xe) (.Call (.Name a p1) [] [] p2) (fResO 0 (thkO fb δ)) := by
  refine de_can ⟨fun pinsZ sZ σZ HZ Q IZ ⟨cZ, FZ, δZ, okZ, post⟩ => ?_⟩
  unfold fResO at post
  split at post
  case h_2 => exact post.elim
  rename_i q0
  obtain ⟨v0, e0, r0⟩ := okZ.slot 0 _ q0
  have r0 : L.p FZ v0 := by
    have r0 : rep (M.wl L) FZ .lam v0 := r0
    unfold rep at r0
    exact r0
  obtain ⟨ev, gZ⟩ := (hL _ _).mp r0
  subst ev
  refine wpAny_Call_Name_kw (thn ((pe_var (pos := p1) (i := 0) hN hv hd hcd).run pinsZ sZ σZ HZ (fun v H1 => v = .ref f ∧ H1 = HZ) IZ ⟨.ref f, e0, rfl, rfl⟩) fun u s1 ⟨v, H1, I1, r1, q1, q2⟩ => ?_)
  subst q1 q2
  obtain rfl : u = Value.ref f := r1
  have fat := I1.base.keep f _ hf hfn hfr (fun z => nomatch (show f ∈ ([] : List Addr) from z))
  refine PySem.W.callWith_F0 ⟨_, _, _, _, fat⟩ ?_
  have un : Un (frs X.stack) [] H H1 s.heap s1.heap := I1.base
  have hcZ : H1 c' = some (LamX.CodeO c' (X.env.qual ++ "<lambda>")) := okZ.same _ _ (gZ _ _ hc)
  obtain ⟨⟨oc, vs, t, hoc, hdc, hvc⟩, _, _⟩ := I1.hok c' _ hcZ
  have rc : codeAny (model X.prog X.w) (X.A.deeper (PyProof.Rows.envOfC qg sg s.heap.objs.size g cdg)) (.call (.ref f) ⟨[], []⟩) (CR (L2.CX X.prog X.w) (PyProof.Rows.envOfC qg sg s.heap.objs.size g cdg :: X.stack) X.prog X.w H1 s1 Q (WE WZ σZ)) s1 := by
    refine PySem.W.kla_callFunE hr.depth fat rfl hS.co hS.gen rfl ⟨c', oc, vs, t, rfl, hoc, hdc, hvc⟩ ?_
    rw [hbi]
    refine wpAny_pure (wpAny_newFunctionEnv (fun y hy => (hS.own y hy).2) (fun y hy => absurd hy (by simp)) (fun h₁ hns hsb => ⟨I1.nolimit.fresh _ hsb, ?_⟩) hS.kind)
    have kp : ∀ b o, s1.heap.get? b = some o → h₁.get? b = some o := fun b o e => hsb.extBut b o (Nat.ne_of_lt (Heap.lt_size e)) (Heap.get?_push_of_some _ e)
    have J := LamX.lam_start2 (tk := s1.toks + ([] : List (Str × Value)).length) (E := WE WZ σZ) (f := f) (c' := c') I hS I1.env0 hr.hd un hns kp
    obtain ⟨tt, pt, ht⟩ := hbody _ _ s1 H1 (WE WZ σZ) (hr.deeper _) (takes_of rfl rfl rfl rfl)
    refine PySem.W.kla_codeExpr (wpAny_mono ((pe_lks pt).run [] _ _ H1 Q J (ht (frm M FZ H1) FZ H1 σ (immP δ) (fun v H' => LkS (Q v) H') ((ok.immP (g01.trans gZ)).ok okZ.same ⟨okZ.tb.tab, okZ.tb.fr, okZ.tb.nt⟩) ?_)) (fun v s' hq => ?_) fun e s' hq => hq)
    · unfold thkO at post
      cases qb : fb (immP δ) with
      | bad => rw [qb] at post; exact post.elim
      | exc x δ2 =>
        rw [qb] at post
        intro cls d F' H' g' ok' xa
        have st := stp_back ok'
        exact post cls d F' H' g' (okZ.stp ⟨st.grow, st.nofz, st.kept, st.same, st.tb.tab, st.tb.fr, st.tb.nt⟩) (xAt_lm hM xa)
      | ok r δ2 =>
        rw [qb] at post
        intro v F' H' g' ok' rr
        cases r with
        | brw o => exact post.elim
        | nst _ _ => exact post.elim
        | imm d => exact post.elim
        | own o =>
          cases o with
          | dK _ _ => exact post.elim
          | dT _ _ => exact post.elim
          | o _ _ => exact post.elim
          | l ds =>
            have st := stp_back ok'
            have st2 : Stp (M.wl L) FZ H1 F' H' none := ⟨st.grow, st.nofz, st.kept, st.same, st.tb.tab, st.tb.fr, st.tb.nt⟩
            obtain ⟨b, rfl, k1, k2, ⟨vs, k3, k4⟩, _⟩ := rr
            exact .now (post _ F' H' g' (okZ.stp st2) (okZ.resR st2 ⟨b, rfl, k1, str0_none k2, vs, k3, reps_lm hM _ _ k4⟩))
    · obtain ⟨w', H', J', rv, q⟩ := hq
      exact ⟨w', H', J'.os, J'.bare, J'.base, J'.hok, rv, q⟩
  refine wpAny_call (codeAny_mono rc fun r s' hq => ?_)
  cases r with
  | error e => exact passAt tk σZ pinsZ H1 s1 e s' I1 hq
  | ok fl =>
    cases fl with
    | ret u => exact I1.after hq
    | next => exact False.elim hq
    | brk => exact False.elim hq
    | cont => exact False.elim hq
theorem d_lamO {x : Str} {g cO PO : Addr} {j k kb : Nat} {mt : Res (List D) → Fm} {qg : Str} {pg : Arguments} {bg : List Stmt} {sg : Scope} {fd : FuncData} {a : Str} {Ng : List Str} {gg : Res (List D) → FS} {ixs : List Nat} {fb : FE} {params : Arguments} {body : Expr} {scope : Scope} {p lpos pos : Pos}
    (hL : LamOkO X.prog X.w M X.K X.mg X.base k x g mt qg pg bg sg fd a Ng gg) (hM : M.lm = L0) (hg : Gl X x) (hmx : X.mg x = some (.ref g)) (tk : Takes X W) (hr : TS.Room j X.A) (h1 : k + 1 ≤ j) (h2 : kb + 2 ≤ j)
    (TB : LamX.TabB X.base X.mg cO PO) (hcode : X.env.code = .ref cO) (hmT : (PO, X.env.qual ++ "<lambda>") ∈ M.T) (hu : ∀ p ∈ M.T, p.1 = PO → p.2 = X.env.qual ++ "<lambda>") (hS : LamX.LamS X.env.scope scope)
    (hbody : ∀ (A : Around) (outer : List Env) (s : Shared) (H : Hp) (E : XK) (f c' : Addr), TS.Room kb (A.deeper (LamX.lamEnv X scope s.heap.objs.size f c')) → Takes (LamX.lamCx X A outer s H E scope f c') (fun cls d _ H => E cls d H) → DE M (fun cls d _ H => E cls d H) (LamX.lamCx X A outer s H E scope f c') body fb)
    (hN : Ng[0]? = some a := by rfl) (hv : Vis sg a := by first | exact Or.inl rfl | exact Or.inr (Or.inl rfl) | exact Or.inr (Or.inr rfl)) (hdef : defaultsOf params X.env = ([], []) := by rfl) (hbi : ∀ (q : Str) (cl : List (Str × Addr)) (pm cv ctv : Value), bindArgs (PySem.W.kla_fn "<lambda>" q params body scope cl pm cv ctv) ⟨[], []⟩ = pure [] := by exact fun _ _ _ _ _ => rfl)
    (hdb : (x == ("__debug__" : Str)) = false := by decide) (hd : (a == ("__debug__" : Str)) = false := by decide) (hcd : (a == ("__classdict__" : Str)) = false := by decide) :
    DE M W X (.Call (.Name x p) [.Lambda params body scope lpos] [] pos) (fLamO ixs mt fb) := by
  refine de_can ⟨fun pins s σ H Q I ⟨c, F, δ, ok, post⟩ => ?_⟩
  obtain ⟨H, I, F0, g0, ok0⟩ := (ok.frzS ixs).inv I
  have post := Post.shift post g0
  unfold fLamO at post
  rw [hL.mt_] at post
  generalize frzS ixs δ = δ1 at post ok0
  refine wpAny_Call_Name_kw (ld_glob I hg hmx ?_ hdb)
  refine PySem.W.callWith_K (h₀ := X.base) I.ok.mod.kin hL.kp ?_ (by rfl) (by rfl)
  refine Calls.spliced_cons (LamX.lam_make2 I TB hcode hmT hu ok0.tb.tab hdef (hS.has I.ok) fun f c' pm' ctv H1 s' I1 eN T1 hf hfn hfr hco => ?_)
  refine Calls.spliced_nil ⟨I1.kIn, ?_⟩
  have s0 : Same F0 H1 := fun b o e => eN b o (ok0.same b o e) (fun ps z => ok0.tb.nt b ps (z ▸ e))
  let F1 : Hp := fun b => if b = c' then some (LamX.CodeO c' (X.env.qual ++ "<lambda>")) else F0 b
  have F1c : F1 c' = some (LamX.CodeO c' (X.env.qual ++ "<lambda>")) := if_pos rfl
  have F1n : ∀ b, b ≠ c' → F1 b = F0 b := fun b h => if_neg h
  have g01 : Same F0 F1 := fun b o e => by
    by_cases z : b = c'
    · have := s0 b o e
      rw [z, hco] at this
      rw [z, F1c, this]
    · rw [F1n b z]; exact e
  have s1 : Same F1 H1 := fun b o e => by
    by_cases z : b = c'
    · rw [z, F1c] at e; cases e; rw [z]; exact hco
    · rw [F1n b z] at e; exact s0 b o e
  have tb1 : Tb M F1 H1 := ⟨T1, fun q hq => by
    obtain ⟨ps, e1, _⟩ := T1 q hq
    have z : q.1 ≠ c' := fun z => by rw [z, hco] at e1; cases e1
    rw [F1n _ z]; exact ok0.tb.fr q hq, fun b ps e => by
    by_cases z : b = c'
    · rw [z, F1c] at e; cases e
    · rw [F1n b z] at e; exact ok0.tb.nt b ps e⟩
  have nt1 : ∀ b o, H b = some o → NT o → H1 b = some o := fun b o e n => eN b o e (fun ps z => by rw [z] at n; cases n)
  let L : Lm := ⟨fun F v => v = V.ref f ∧ Same F1 F, fun {F F' v} g h => ⟨h.1, h.2.trans g⟩, fun h => ⟨f, h.1⟩⟩
  -- what the call gives back, seen from here
  have back : ∀ {F' H' : Hp}, Stp (M.wl L) F1 H1 F' H' none → Stp M F0 H F' H' none := fun {F' H'} st => by
    refine ⟨g01.trans st.grow, fun b o e n z => ?_, fun b o e n _ => st.kept b o (nt1 b o e n) n (fun z => nomatch z), st.same, ⟨st.tb.tab, st.tb.fr, st.tb.nt⟩⟩
    have k1 := nt1 b o e n
    have hb : b ≠ c' := fun z => by rw [z, hco] at k1; cases k1; cases n
    exact st.nofz b o k1 n (by rw [F1n b hb]; exact z)
  have rc : codeAny (model X.prog X.w) X.A (.call (.ref g) ⟨[.ref f], []⟩) (CR (L2.CX X.prog X.w) X.stack X.prog X.w H1 s' Q (WE W σ)) s' := by
    obtain ⟨oc, od, dV, kV, doc, pm, an, cdv, ct, osl, rfl, lk, hcg, _, _⟩ := hL.fd_.ex
    refine LamX.run_ofS (k := k) (N := Ng) (ps := [a]) (us := [.ref f]) (vs := [.ref f]) lk hcg hL.sc (L2.Room.mono hr.lo h1) I1.env0 (hL.bi s' [.ref f] I1.kIn rfl) (.cons rfl .nil) rfl fun _ => ?_
    have hr2 : TS.Room k (X.A.deeper (PyProof.Rows.envOfC qg sg s'.heap.objs.size g cdv)) := (hr.mono h1).deeper _
    obtain ⟨t, pt, ht⟩ := hL.run L (thkO fb δ1) cdv X.A X.stack s' H1 (WE W σ) hr2 (takes_of rfl rfl rfl rfl) (passes_of rfl) fun WZ pn xe p1 p2 tkZ =>
      act_deO (kb := kb) hM I1 hS hf hfn hfr (hbi _ _ _ _ _) (⟨s0, ok0.grow, ok0.nofz, fun b o e i => nt1 b o (ok0.kept b o e i) (c.nt b o e), fun b e => by
        obtain ⟨u, q1, q2⟩ := ok0.ioh b e
        exact ⟨u, nt1 b u q1 q2, q2⟩, ⟨T1, ok0.tb.fr, ok0.tb.nt⟩, ok0.len, fun i r e => by
        obtain ⟨v, q1, q2⟩ := ok0.slot i r e
        refine ⟨v, q1, ?_⟩
        cases r with
        | imm d => exact q2
        | own o =>
          obtain ⟨b, rfl, k1, k2, k3⟩ := q2
          obtain ⟨u, hu, hn⟩ := obAt_nt k3
          exact ⟨b, rfl, k1, k2, obAt_mono (Same.refl _) ((nt1 b u hu hn).trans hu.symm) k3⟩
        | brw o =>
          obtain ⟨b, rfl, k1, k2, k3⟩ := q2
          obtain ⟨u, hu, hn⟩ := obAt_nt k3
          exact ⟨b, rfl, k1, k2, obAt_mono (Same.refl _) ((nt1 b u hu hn).trans hu.symm) k3⟩
        | nst _ _ => exact q2, ok0.dist⟩ : Ok c F0 H1 σ δ1) g01 F1c (fun F v => Iff.rfl) (((hr.mono h2).deeper _)) tkZ (fun A outer s H E hr3 tk3 => hbody A outer s H E f c' hr3 tk3) hN hv hd hcd
    refine ⟨t, pt, body_ok (M := M.wl L) (np := 1) (g := gg (thkO fb δ1)) ?_ ?_ ht⟩
    · have := List.getElem?_eq_some_iff.mp hN
      exact this.1
    · refine ⟨F1, none, 0, [.ref f], [.lam], rfl, s1, ⟨tb1.tab, tb1.fr, tb1.nt⟩, reps_cons (by unfold rep; exact ⟨rfl, Same.refl _⟩) reps_nil, trivial, ?_⟩
      unfold outLO at post
      cases q : mir Ng.length 1 (gg (thkO fb δ1)) none [.lam] with
      | bad => rw [q] at post; exact post.elim
      | exc y io =>
        rw [q] at post
        dsimp only at post
        split at post
        · rename_i hn
          intro cls d F' H' st xa _
          have st2 := back st
          exact post cls d F' H' st2.grow (ok0.stp st2) (xAt_unl hn xa)
        · exact post.elim
      | ok r io =>
        rw [q] at post
        cases r with
        | brw o => exact post.elim
        | nst tp ps =>
          dsimp only at post
          split at post
          · rename_i hn
            intro v F' H' st ra _
            have st2 := back st
            obtain ⟨b, vs, rfl, n, k⟩ := ra
            refine post _ F' H' st2.grow (ok0.stp st2) (ok0.resR st2 ⟨b, vs, rfl, nat_unl hn n, fun x hx => ⟨(k x hx).1, fun u hu nn => (k x hx).2 u (nt1 x u hu nn) nn⟩⟩)
          · exact post.elim
        | imm d =>
          dsimp only at post
          split at post
          · rename_i hn
            intro v F' H' st ra _
            have st2 := back st
            exact post v F' H' st2.grow (ok0.stp st2) (rep_unl d v hn ra)
          · exact post.elim
        | own o =>
          dsimp only at post
          split at post
          · rename_i hn
            intro v F' H' st ra _
            have st2 := back st
            obtain ⟨b, rfl, k1, k2, k3⟩ := ra
            exact post _ F' H' st2.grow (ok0.stp st2) (ok0.resR st2 ⟨b, rfl, k1, fun u hu n => k2 u (nt1 b u hu n) n, obAt_unl hn k3⟩)
          · exact post.elim
  refine wpAny_call (codeAny_mono rc fun r s2 hq => ?_)
  cases r with
  | error e => exact passAt tk σ pins H1 s' e s2 I1 hq
  | ok fl =>
    cases fl with
    | ret u => exact I1.after hq
    | next => exact False.elim hq
    | brk => exact False.elim hq
    | cont => exact False.elim hq
end
def sTryN (i ie : Nat) (f : FE) (hs : XD → Option FS) : FS := fun δ => match f δ with
  | .ok r δ1 => if i < δ1.length then .rt r δ1 else .bad
  | .exc x δ1 => (match hs x with
    | some g => if ie < δ1.length then (match g (δ1.set ie none) with
      | .nx δ2 => sRet (vR i) (δ2.set ie none)
      | .rt r δ2 => .rt r δ2
      | _ => .bad) else .bad
    | none => .exc x δ1)
  | .bad => .bad
section
variable {M : Gm} {X : Cx}
theorem ret_var {c : Cn M} {W : WX} {F H : Hp} {σ : L2.St} {δ : Sl} {i : Nat} {E : Ends} (ok : Ok c F H σ δ) (post : PostS c W F (sRet (vR i) δ) E) : tRet (tVar i) E σ H := by
  unfold sRet vR at post
  split at post
  · rename_i d q
    obtain ⟨v, e1, e2⟩ := ok.slot i _ q
    exact ⟨v, e1, post v F H σ (Same.refl _) ok e2⟩
  · rename_i o q
    obtain ⟨v, e1, e2⟩ := ok.take q
    exact ⟨v, e1, post v F H σ (Same.refl _) (ok.drop i) e2⟩
  · exact post.elim
theorem dss_tryN {W : WX} {n x : Str} {i ie : Nat} {e : Expr} {h₀ : ExceptHandler} {hds : List ExceptHandler} {pos p1 p2 p3 p4 : Pos} {f : FE} {hs : XD → Option FS} (hst : X.stack = X.env :: X.outer) (hf : X.env.frame = some X.env.locals) (hN : X.N.Nodup) (hi : X.N[ie]? = some n) (hln : X.env.kindOf n = some .local) (tk : Takes X W)
    (hix : X.N[i]? = some x) (hx : Loc X.env.scope x) (hv : Vis X.env.scope x)
    (hb : ∀ (W : WX) (pn : List (Addr × Obj)) (xe : Value → Shared → Prop), Takes (X.tr pn xe) W → PassesOwn (model X.prog X.w) X.A X.env xe → DE M W (X.tr pn xe) e f) (hh : ClA M X n ie (h₀ :: hds) hs)
    (hsw : ∀ pn xe, swapsWith e (some (.Name x p1)) p2.line (X.tr pn xe).env = pure false := by intro _ _; rfl) (hfl : ∀ pn xe, (X.tr pn xe).fn x = true ∨ (X.tr pn xe).env.scope.names.lookup x = some .local := by intro _ _; first | exact .inl rfl | exact .inr rfl | assumption)
    (hd : (x == ("__debug__" : Str)) = false := by decide) (hcd : (x == ("__classdict__" : Str)) = false := by decide) :
    DSs M W X [.Try [.Assign [.Name x p1] e p2] (h₀ :: hds) [] [] pos, .Return (some (.Name x p3)) p4] (sTryN i ie f hs) := by
  obtain ⟨l, hl, key⟩ := clA_ok hh
  refine ⟨_, pss_cons (ps_try_asL (tb := fun W D σ H => ∀ pn xe (h1 : Takes (X.tr pn xe) W) (h2 : PassesOwn (model X.prog X.w) X.A X.env xe), tAsg (hb W pn xe h1 h2).choose (gName i) D σ H) hst hf hN hi hln tk (fun W pn xe h1 h2 => ⟨fun pins s σ H D I h => ?_⟩) hl) (pss_one (ps_ret (pe_var (i := i) hix hv hd hcd))), fun c F H σ δ E ok post pn xe h1 h2 => ?_⟩
  · exact (pss_one (ps_set (X := X.tr pn xe) (hN : (X.tr pn xe).N.Nodup) hix hx (hb W pn xe h1 h2).choose_spec.1 (hsw pn xe) (hfl pn xe))).run pins s σ H D I (h pn xe h1 h2)
  · refine (hb _ pn xe h1 h2).choose_spec.2 c F H σ δ _ ok ?_
    unfold sTryN at post
    cases w : f δ with
    | bad => rw [w] at post; exact post.elim
    | ok r δ1 =>
      rw [w] at post
      intro v F1 H1 s ok1 rr
      have post : PostS c W F (if i < δ1.length then .rt r δ1 else .bad) E := post
      split at post
      · rename_i hlt
        refine ⟨v, ?_, post v F1 H1 σ s ok1 rr⟩
        rw [List.getElem?_set_self (by rw [ok1.len]; exact hlt)]
      · exact post.elim
    | exc x δ1 =>
      rw [w] at post
      intro cls d F' H' s ok' xa
      refine key c W _ x δ1 cls d F' H' σ ok' xa ?_
      have post : PostS c W F (match hs x with | some g => if ie < δ1.length then (match g (δ1.set ie none) with | .nx δ2 => sRet (vR i) (δ2.set ie none) | .rt r δ2 => .rt r δ2 | _ => .bad) else .bad | none => .exc x δ1) E := post
      cases v : hs x with
      | none => rw [v] at post; exact post cls d F' H' σ s ok' xa
      | some g =>
        rw [v] at post
        by_cases hil : ie < δ1.length
        · simp only [if_pos hil] at post
          refine ⟨hil, ?_⟩
          cases gg : g (δ1.set ie none) with
          | nx δ2 =>
            rw [gg] at post
            intro F2 H2 σ2 s2 ok2
            exact ret_var ok2 (PostS.shift post (s.trans s2))
          | rt r δ2 => rw [gg] at post; exact PostS.shift post s
          | bk _ => rw [gg] at post; exact post.elim
          | ct _ => rw [gg] at post; exact post.elim
          | exc _ _ => rw [gg] at post; exact post.elim
          | bad => rw [gg] at post; exact post.elim
        · simp only [if_neg hil] at post
          exact post.elim
end
end
end TS

namespace TS
open PySem L2
noncomputable section
section
variable {α β : Type} (δ : Sl)
@[simp] theorem Res.bind_bad (k : α → Sl → Res β) : (Res.bad : Res α).bind k = .bad := rfl
@[simp] theorem Res.bindS_bad (k : α → Sl → SR) : (Res.bad : Res α).bindS k = .bad := rfl
@[simp] theorem SR.bind_bk (k : Sl → SR) : (SR.bk δ).bind k = .bk δ := rfl
@[simp] theorem SR.bind_ct (k : Sl → SR) : (SR.ct δ).bind k = .ct δ := rfl
@[simp] theorem SR.bind_bad (k : Sl → SR) : (SR.bad).bind k = .bad := rfl
@[simp] theorem ap_kD (d : D) : kD d δ = .ok d δ := id rfl
@[simp] theorem ap_toE (f : FD) : toE f δ = (f δ).bind fun d δ => .ok (.imm d) δ := id rfl
@[simp] theorem ap_frz (f : FE) : frz f δ = (f δ).bind fun r δ => match r with | .imm d => .ok d δ | .own o => .ok o.toD δ | .brw _ => .bad | .nst _ _ => .bad := id rfl
@[simp] theorem ap_fBin (g : D → D → Option R) (fa fb : FD) : fBin g fa fb δ = (fa δ).bind fun x δ1 => (fb δ1).bind fun y δ2 => match g x y with | some z => .ok z δ2 | none => .bad := id rfl
@[simp] theorem ap_fBinV (g : D → D → Option R) (i : Nat) (fb : FD) : fBinV g i fb δ = if there δ i then (fb δ).bind fun y δ1 => (vP i δ1).bind fun x δ2 => match g x y with | some z => .ok z δ2 | none => .bad else .bad := id rfl
@[simp] theorem ap_aNil : aNil δ = .ok [] δ := id rfl
@[simp] theorem ap_aCons (f : FD) (g : FA) : aCons f g δ = (f δ).bind fun d δ1 => (g δ1).bind fun ds δ2 => .ok (d :: ds) δ2 := id rfl
@[simp] theorem ap_aOne (f : FD) : aOne f δ = (f δ).bind fun d δ1 => .ok [d] δ1 := id rfl
@[simp] theorem ap_fCal (g : List D → Option R) (fa : FA) : fCal g fa δ = (fa δ).bind fun ds δ1 => match g ds with | some z => .ok z δ1 | none => .bad := id rfl
@[simp] theorem ap_fTst (f : FE) : fTst f δ = (f δ).bind fun r δ => match r with | .imm (.bl b) => .ok b δ | _ => .bad := id rfl
@[simp] theorem ap_fNot (f : FT) : fNot f δ = (f δ).bind fun b δ => .ok (!b) δ := id rfl
@[simp] theorem ap_fAnd (f g : FT) : fAnd f g δ = (f δ).bind fun b δ => if b then g δ else .ok false δ := id rfl
@[simp] theorem ap_fOr (f g : FT) : fOr f g δ = (f δ).bind fun b δ => if b then .ok true δ else g δ := id rfl
@[simp] theorem ap_fAndV (f : FD) (g : FE) : fAndV f g δ = (f δ).bind fun d δ => match d with | .bl true => g δ | .bl false => .ok (.imm (.bl false)) δ | _ => .bad := id rfl
@[simp] theorem ap_fOrV (f : FD) (g : FE) : fOrV f g δ = (f δ).bind fun d δ => match d with | .bl true => .ok (.imm (.bl true)) δ | .bl false => g δ | _ => .bad := id rfl
@[simp] theorem ap_fNotV (f : FD) : fNotV f δ = (f δ).bind fun d δ => match d with | .bl b => .ok (.bl (!b)) δ | _ => .bad := id rfl
@[simp] theorem ap_fIfE (f : FT) (g h : FE) : fIfE f g h δ = (f δ).bind fun b δ => if b then g δ else h δ := id rfl
@[simp] theorem ap_fLst (fa : FA) : fLst fa δ = (fa δ).bind fun ds δ => if ds.length ≤ 16777216 then .ok (.own (.l ds)) δ else .bad := id rfl
@[simp] theorem ap_fTup (fa : FA) : fTup fa δ = (fa δ).bind fun ds δ => if ds.length ≤ 16777216 then .ok (.tup ds) δ else .bad := id rfl
@[simp] theorem ap_fSl (fe : FD) (fl fh : FO) : fSl fe fl fh δ = (fe δ).bind fun d δ => (fl δ).bind fun lo δ => (fh δ).bind fun hi δ => match gSl d lo hi with | some r => .ok r δ | none => .bad := id rfl
@[simp] theorem ap_oNone : oNone δ = .ok none δ := id rfl
@[simp] theorem ap_oSome (f : FD) : oSome f δ = (f δ).bind fun d δ => match d with | .int i => .ok (some i) δ | _ => .bad := id rfl
@[simp] theorem ap_fUnI (g : Int → Int) (fe : FD) : fUnI g fe δ = (fe δ).bind fun d δ => match d with | .int i => .ok (.int (g i)) δ | _ => .bad := id rfl
@[simp] theorem ap_fOwn (f : Fm) (fa : FA) : fOwn f fa δ = (fa δ).bind fun ds δ1 => outE (f none ds) δ1 := id rfl
@[simp] theorem outE_ok (r : R) (io : Option OB) : outE (.ok r io) δ = .ok r δ := rfl
@[simp] theorem ap_sSeq (f g : FS) : sSeq f g δ = (f δ).bind g := id rfl
@[simp] theorem ap_sNil : sNil δ = .nx δ := id rfl
@[simp] theorem ap_sRet (f : FE) : sRet f δ = (f δ).bindS fun r δ1 => .rt r δ1 := id rfl
@[simp] theorem ap_sExpr (f : FE) : sExpr f δ = (f δ).bindS fun _ δ1 => .nx δ1 := id rfl
@[simp] theorem ap_sIf (t : FT) (f g : FS) : sIf t f g δ = (t δ).bindS fun b δ1 => if b then f δ1 else g δ1 := id rfl
@[simp] theorem ap_sAsg (f : FE) (h : R → Sl → SR) : sAsg f h δ = (f δ).bindS h := id rfl
@[simp] theorem ap_tNameI (i : Nat) (d : D) : tName i (.imm d) δ = .nx (δ.set i (some (.imm d))) := id rfl
@[simp] theorem ap_tNameO (i : Nat) (d : OB) : tName i (.own d) δ = .nx (δ.set i (some (.own d))) := id rfl
@[simp] theorem ap_tsNil : tsNil [] δ = .nx δ := id rfl
@[simp] theorem ap_tsCons (h : R → Sl → SR) (hs : List D → Sl → SR) (d : D) (ds : List D) : tsCons h hs (d :: ds) δ = (h (.imm d) δ).bind (hs ds) := id rfl
@[simp] theorem ap_tTup (n : Nat) (hs : List D → Sl → SR) (ds : List D) : tTup n hs (.imm (.tup ds)) δ = if ds.length = n then hs ds δ else .bad := id rfl
@[simp] theorem ap_sFor (fi : FA) (tg : R → Sl → SR) (body : FS) : sFor fi tg body δ = (fi δ).bindS fun ds δ1 => forL tg body ds δ1 := id rfl
@[simp] theorem ap_itSeq (f : FD) : itSeq f δ = (f δ).bind fun d δ => match d with | .lst ds => .ok ds δ | _ => .bad := id rfl
@[simp] theorem ap_itTup (f : FD) : itTup f δ = (f δ).bind fun d δ => match d with | .tup ds => .ok ds δ | .ktp ns => .ok (ns.map D.int) δ | _ => .bad := id rfl
@[simp] theorem ap_itEnum (f : FD) : itEnum f δ = (f δ).bind fun d δ => match d with | .lst ds => .ok (enumD 0 ds) δ | _ => .bad := id rfl
@[simp] theorem ap_sPar (i j : Nat) (f g : FE) : sPar i j f g δ = (f δ).bindS fun r δ1 => match r with | .brw _ => .bad | .nst _ _ => .bad | r => (g δ1).bindS fun r' δ2 => match r' with | .brw _ => .bad | .nst _ _ => .bad | r' => .nx ((δ2.set i (some r)).set j (some r')) := id rfl
@[simp] theorem ap_fFld (ix : Nat → Option Nat) (fo : FD) : fFld ix fo δ = (fo δ).bind fun d δ1 => match d with | .obj n vs => (match ix n with | some j => (match vs[j]? with | some d => .ok d δ1 | none => .bad) | none => .bad) | _ => .bad := id rfl
@[simp] theorem ap_fMeth (tab : Nat → Option Fm) (fo : FD) (fa : FA) : fMeth tab fo fa δ = (fo δ).bind fun d δ1 => match d with | .obj n vs => (match tab n with | some f => (fa δ1).bind fun ds δ2 => outE (f none (.obj n vs :: ds)) δ2 | none => .bad) | _ => .bad := id rfl
@[simp] theorem ap_fIsi (tab : Tg → Option Bool) (fe : FD) : fIsi tab fe δ = (fe δ).bind fun d δ => match tagD d with | some t => (match tab t with | some b => .ok (.bl b) δ | none => .bad) | none => .bad := id rfl
@[simp] theorem ap_vI (i : Nat) : vI i δ = match δ[i]? with | some (some (.imm d)) => .ok d δ | some (some (.own o)) => .ok o.toD (δ.set i (some (.imm o.toD))) | _ => .bad := id rfl
@[simp] theorem ap_vP (i : Nat) : vP i δ = match δ[i]? with | some (some (.imm d)) => .ok d δ | some (some (.own o)) => .ok o.toD δ | some (some (.brw o)) => .ok o.toD δ | _ => .bad := id rfl
@[simp] theorem ap_vR (i : Nat) : vR i δ = match δ[i]? with | some (some (.imm d)) => .ok (.imm d) δ | some (some (.own o)) => .ok (.own o) (δ.set i none) | _ => .bad := id rfl
@[simp] theorem ap_there (i : Nat) : there δ i = match δ[i]? with | some (some _) => true | _ => false := id rfl
@[simp] theorem ap_tSub (x : Nat) (fi : FD) (d : D) : tSub x fi (.imm d) δ = match δ[x]? with | some (some r0) => if r0.mu then (fi δ).bindS fun i δ1 => match δ1[x]? with | some (some (.own o)) => (match setOB o i d with | some o' => .nx (δ1.set x (some (.own o'))) | none => .bad) | some (some (.brw o)) => (match setOB o i d with | some o' => .nx (δ1.set x (some (.brw o'))) | none => .bad) | _ => .bad else .bad | _ => .bad := id rfl
end
@[simp] theorem ap_tLstI (n : Nat) (hs : List D → Sl → SR) (ds : List D) (δ : Sl) : tLst n hs (.imm (.lst ds)) δ = if ds.length = n then hs ds δ else .bad := id rfl
@[simp] theorem ap_tLstO (n : Nat) (hs : List D → Sl → SR) (ds : List D) (δ : Sl) : tLst n hs (.own (.l ds)) δ = if ds.length = n then hs ds δ else .bad := id rfl
@[simp] theorem ap_fMethK (tab : Nat → Option Fm) (n l : Nat) (fo : FD) (fa fk : FA) (δ : Sl) : fMethK tab n l fo fa fk δ = (fo δ).bind fun d δ1 => match d with
  | .obj c vs => (match tab c with
    | some f => (fa δ1).bind fun ds δ2 => (fk δ2).bind fun es δ3 => if ds.length = n ∧ es.length = l then outE (f none (.obj c vs :: (ds ++ es))) δ3 else .bad
    | none => .bad)
  | _ => .bad := id rfl
@[simp] theorem ap_fBinO (tab : Nat → Option Fm) (fa fb : FD) (δ : Sl) : fBinO tab fa fb δ = (fa δ).bind fun x δ1 => (fb δ1).bind fun y δ2 => match x, y with
  | .obj n vs, .obj m ws => if n = m then (match tab n with
    | some f => outO (f none [.obj n vs, .obj m ws]) δ2
    | none => .bad) else .bad
  | _, _ => .bad := id rfl
@[simp] theorem outO_own (o : OB) (io : Option OB) (δ : Sl) : outO (.ok (.own o) io) δ = .ok (.own o) δ := rfl
@[simp] theorem ap_sPar3 (i j l : Nat) (fa : FA) (δ : Sl) : sPar3 i j l fa δ = (fa δ).bindS fun ds δ1 => match ds with | [a, b, c] => .nx (((δ1.set i (some (.imm a))).set j (some (.imm b))).set l (some (.imm c))) | _ => .bad := id rfl
@[simp] theorem ap_fOwnP (f : Fm) (fa : FA) (δ : Sl) : fOwnP f fa δ = (fa δ).bind fun ds δ1 => if ds.any D.dic then .bad else outP (f none ds) δ1 := id rfl
@[simp] theorem dic_lst (xs : List D) : D.dic (.lst xs) = false := rfl
@[simp] theorem dic_tup (xs : List D) : D.dic (.tup xs) = false := rfl
@[simp] theorem dic_scr (xs : List D) : D.dic (.scr xs) = false := rfl
@[simp] theorem dic_int (x : Int) : D.dic (.int x) = false := rfl
@[simp] theorem dic_str (x : Str) : D.dic (.str x) = false := rfl
@[simp] theorem dic_bl (x : Bool) : D.dic (.bl x) = false := rfl
@[simp] theorem dic_non : D.dic .non = false := rfl
@[simp] theorem dic_obj (c : Nat) (xs : List D) : D.dic (.obj c xs) = false := rfl
@[simp] theorem dic_cls (c : Nat) : D.dic (.cls c) = false := rfl
@[simp] theorem dic_dK (ks : List Key) (ds : List D) : D.dic (.dK ks ds) = true := rfl
@[simp] theorem dic_dT (ks : List (List Key)) (ds : List D) : D.dic (.dT ks ds) = true := rfl
@[simp] theorem outP_ok (r : R) (io : Option OB) (δ : Sl) : outP (.ok r io) δ = if flatR r then .ok r δ else .bad := rfl
@[simp] theorem flat_bl (b : Bool) : flatR (.imm (.bl b)) = true := rfl
@[simp] theorem flat_int (b : Int) : flatR (.imm (.int b)) = true := rfl
@[simp] theorem flat_non : flatR (.imm .non) = true := rfl
@[simp] theorem flat_str (x : Str) : flatR (.imm (.str x)) = true := rfl
@[simp] theorem mu_own (o : OB) : (R.own o).mu = true := rfl
@[simp] theorem mu_brw (o : OB) : (R.brw o).mu = true := rfl
@[simp] theorem mu_imm (d : D) : (R.imm d).mu = false := rfl
@[simp] theorem toD_l (xs : List D) : (OB.l xs).toD = .lst xs := rfl
@[simp] theorem toD_o (n : Nat) (xs : List D) : (OB.o n xs).toD = .obj n xs := rfl
@[simp] theorem gAdd_i (i j : Int) : gAdd (.int i) (.int j) = some (.imm (.int (i + j))) := rfl
@[simp] theorem gSub_i (i j : Int) : gSub (.int i) (.int j) = some (.imm (.int (i - j))) := rfl
@[simp] theorem gLt_i (i j : Int) : gLt (.int i) (.int j) = some (.imm (.bl (decide (i < j)))) := rfl
@[simp] theorem gLe_i (i j : Int) : gLe (.int i) (.int j) = some (.imm (.bl (decide (i ≤ j)))) := rfl
@[simp] theorem gGt_i (i j : Int) : gGt (.int i) (.int j) = some (.imm (.bl (decide (j < i)))) := rfl
@[simp] theorem gGe_i (i j : Int) : gGe (.int i) (.int j) = some (.imm (.bl (decide (j ≤ i)))) := rfl
theorem eqvI (i j : Int) : PyData.eqv (.int i) (.int j) = decide (i = j) := by
  by_cases h : i = j
  · subst h; simp [PyData.eqv]
  · simp [PyData.eqv, h]
theorem shapedI (i : Int) : SeqAt.shaped (.int i) = true := by
  first | rfl | (unfold SeqAt.shaped; simp [PyData.canLay0, PyData.depth])
@[simp] theorem gEq_i (i j : Int) : gEq (.int i) (.int j) = some (.imm (.bl (decide (i = j)))) := by
  simp [gEq, toP, eqvI, shapedI]
@[simp] theorem gNe_i (i j : Int) : gNe (.int i) (.int j) = some (.imm (.bl (!decide (i = j)))) := by
  simp [gNe, toP, eqvI, shapedI]
theorem gMod_i {i j : Int} (h : 0 < j) : gMod (.int i) (.int j) = some (.imm (.int (i % j))) := by
  simp [gI, CModB, h]
theorem log2_lt {n k : Nat} (h : n < 2 ^ k) (hk : 0 < k) : n.log2 < k := by
  by_cases h0 : n = 0
  · subst h0; simpa using hk
  · exact (Nat.log2_lt h0).mpr h
theorem gFdiv_i {i j : Int} (h : 0 < j) (h2 : j.natAbs < 2 ^ 255) : gFdiv (.int i) (.int j) = some (.imm (.int (i / j))) := by
  have := log2_lt h2 (by decide)
  have e : CDivB i j = true := gd_true ⟨h, by omega⟩
  simp [gFdiv, gOr, gI, e]
theorem gMul_i {i j : Int} (h : i.natAbs < 2 ^ 255) (h2 : j.natAbs < 2 ^ 255) : gMul (.int i) (.int j) = some (.imm (.int (i * j))) := by
  have h1 := log2_lt h (by decide)
  have h3 := log2_lt h2 (by decide)
  have e : CMulB i j = true := gd_true (by omega)
  simp [gMul, gOr, gI, e]
theorem gPow_i {i j : Int} (h : 0 ≤ j) (h2 : j ≤ 1000000) (h3 : i.natAbs < 18446744073709551616) : gPow (.int i) (.int j) = some (.imm (.int (i ^ j.toNat))) := by
  have e : CPowB i j = true := gd_true ⟨h, h2, h3⟩
  simp [gI, e]
@[simp] theorem gInt_i (i : Int) : gInt [.int i] = some (.imm (.int i)) := rfl
@[simp] theorem gAbs_i (i : Int) : gAbs [.int i] = some (.imm (.int (if i < 0 then -i else i))) := rfl
@[simp] theorem gLen_l (xs : List D) : gLen [.lst xs] = some (.imm (.int xs.length)) := rfl
@[simp] theorem gLen_s (xs : List D) : gLen [.scr xs] = some (.imm (.int xs.length)) := rfl
theorem gDivmod_i {i j : Int} (h : 0 < j) (h2 : j.natAbs < 2 ^ 255) : gDivmod [.int i, .int j] = some (.imm (.tup [.int (i / j), .int (i % j)])) := by
  have := log2_lt h2 (by decide)
  have e : decide (0 < j ∧ j.natAbs.log2 < 9000) = true := decide_eq_true ⟨h, by omega⟩
  simp only [gDivmod, e, if_true]
@[simp] theorem gIx_l (xs : List D) (i : Int) : gIx (.lst xs) (.int i) = (atI xs i).map .imm := rfl
section
open PySem.Spec PyProof.Rows
variable {P : Program} {w : World} {K : PySem.W.Frag} {mg mb : Str → Option Value} {CX : CXT} {k : Nat} {fa a : Addr} {fd : FuncData} {x : Str} {sp : Sp} {s1 : Shared} {vs : List Value} {ns : List Int}
end
theorem noCX {P : Program} {w : World} {H : Hp} {s : Shared} {e : Value} {s' : Shared} (h : L2.CX P w [] H s (fun _ _ _ => False) e s') : False := by
  obtain ⟨_, _, _, _, _, _, _, _, _, _, _, _, z⟩ := h
  exact z
end
end TS

namespace TS
open PySem L2
noncomputable section
section
open PySem.Spec PyProof.Rows
variable {P : Program} {w : World} {K : PySem.W.Frag} {mg mb : Str → Option Value} {CX : CXT} {k : Nat} {fa a : Addr} {cs : List (Addr × Addr)} {fd : FuncData} {x : Str} {sp : Sp} {s1 : Shared} {vs : List Value} {ns : List Int}
theorem law_coreT (KX : K.In s1.heap) (hns : s1.heap.Ns mainGlobals mg) (hb : s1.heap.Ns builtinsNs mb) (hbb : ∀ y : Str, y ≠ "__name__" → mb y = bootBuiltins y) (hlim : s1.heap.NoLimit) (hg : s1.gens = #[])
    (hT : ∀ p ∈ cs, s1.heap.get? p.2 = some (PySem.W.tabObj #[])) (nT : ∀ p ∈ cs, K.lookup p.2 = none) (C : ∀ p ∈ cs, PySem.W.CodeHd s1.heap p.1 p.2)
    (hbm : ∃ (bm : Addr) (ob : Obj), mg "__builtins__" = some (.ref bm) ∧ bm ≠ builtinsNs ∧ s1.heap.get? bm = some ob ∧ ob.cls = .type "module" ∧ ob.dict = some builtinsNs ∧ ob.data = .plain)
    (ha : s1.heap.get? a = some { cls := .type "list", data := .seq vs.toArray }) (hr : Room k callerA) (F : ∀ base : Heap, K.In base → base.Ns mainGlobals mg → (∀ p ∈ cs, LamX.TabB base mg p.1 p.2) → FnOk P w K mg base CX k fa fd [x] sp)
    (hbind : ∀ (s : Shared) (u : Value), BindsTo s fd ⟨[u], []⟩ [(x, u)]) (hCX : ∀ H e s', CX [] H s1 (fun _ _ _ => False) e s' → False)
    {H : Hp} (hH : ∀ p ∈ cs, H p.2 = some (.tbl #[])) (hO : ∀ b, H b = none ∨ (∃ p ∈ cs, p.2 = b) ∨ ∃ o xs, H b = some (.frz o (.lst xs))) (hsp : sp [.ref a] H (fun v _ => v = .bl true) fun _ _ _ => False) (hok : HOk P w H s1.heap) (hA : ∀ b, H b ≠ none → b = a ∨ ∃ p ∈ cs, p.2 = b) (hK : H a ≠ none → K.lookup a = none) :
    codeAny (model P w) callerA (.call (.ref fa) ⟨[.ref a], []⟩) (fun r s' => r = .ok (.ret (.bool true)) ∧ OldK s1.heap s'.heap ∧ s'.os = s1.os ∧ AllBare s'.gens) s1 := by
  -- neither the script nor a table
  have off : ∀ {b : Addr} {o : Obj}, s1.heap.get? b = some o → (∀ us n, o.data ≠ .seq us n) → o.data ≠ .fields #[] → H b = none := by
    intro b o e d1 d2
    rcases Option.eq_none_or_eq_some (H b) with q | ⟨u, q⟩
    · exact q
    · rcases hA b (by rw [q]; exact fun z => nomatch z) with z | ⟨p, hp, z⟩
      · subst z; rw [ha] at e; cases e; exact (d1 _ _ rfl).elim
      · subst z; rw [hT p hp] at e; cases e; exact (d2 rfl).elim
  have dictN : ∀ {b : Addr} {o : Obj} {es : Array DictEntry} {ep : Nat}, s1.heap.get? b = some o → o.data = .dict es ep → H b = none := fun e d => off e (fun us n z => by rw [d] at z; cases z) (fun z => by rw [d] at z; cases z)
  have nsH : ∀ {b : Addr} {m : Str → Option Value}, s1.heap.Ns b m → (hidT s1.heap H).Ns b m := by
    rintro b m ⟨o, es, ep, e, d, r⟩
    exact ⟨o, es, ep, hidT_get e (dictN e d), d, r⟩
  have kinH : K.In (hidT s1.heap H) := by
    intro b o e
    refine hidT_get (KX b o e) ?_
    rcases Option.eq_none_or_eq_some (H b) with q | ⟨u, q⟩
    · exact q
    · rcases hA b (by rw [q]; exact fun z => nomatch z) with z | ⟨p, hp, z⟩
      · subst z
        rw [hK (by rw [q]; exact fun z => nomatch z)] at e
        cases e
      · subst z; rw [nT p hp] at e; cases e
  obtain ⟨mc, c1, c2⟩ := hlim
  have hmod : Mod K mg (hidT s1.heap H) := ⟨kinH, nsH hns, ⟨mb, nsH hb, hbb⟩, ⟨mc, nsH c1, c2⟩⟩
  have tabs : ∀ p ∈ cs, LamX.TabB (hidT s1.heap H) mg p.1 p.2 := by
    intro p hp
    obtain ⟨o, us, fl, tf, fg, tg, iF, tx, tt, e1, r1, r2, r3, rr⟩ := C p hp
    obtain ⟨bm, ob, b1, b2, b3, b4, b5, b6⟩ := hbm
    have hTp := hT p hp
    refine ⟨⟨o, us, fl, tf, fg, tg, iF, tx, tt, hidT_get e1 (off e1 (fun vs n z => ?_) fun z => ?_), r1, r2, r3, rr⟩, ⟨bm, ob, b1, b2, fun z => ?_, fun z => ?_, hidT_get b3 (off b3 (fun vs n z => ?_) fun z => ?_), b4, b5, b6⟩, fun z => ?_⟩
    · rw [r2] at z; cases z
    · rw [r2] at z; cases z; simp at r3
    · obtain ⟨o2, es, ep, e, hd, _⟩ := hns
      rw [z, e] at b3; cases b3
      rw [hd] at b6; cases b6
    · rw [z, hTp] at b3; cases b3; cases b6
    · rw [b6] at z; cases z
    · rw [b6] at z; cases z
    · obtain ⟨o2, es, ep, e, hd, _⟩ := hns
      rw [z, hTp] at e; cases e; cases hd
  have env : Env0 P w K mg (hidT s1.heap H) callerA [] s1 H := ⟨rfl, hmod, fun _ _ e => of_hidT e, Nat.le_of_eq (hidT_size _ _), trivial, fun b z => absurd z (List.not_mem_nil (a := b)), hok, .of_eq hg⟩
  have run := (F _ kinH (nsH hns) tabs).run callerA [] s1 H ⟨[.ref a], []⟩ [.ref a] [.ref a] _ _ hr env (hbind s1 (.ref a)) (.cons rfl .nil) hsp
  refine codeAny_mono run ?_
  rintro (e | fl) s' z
  · exact (hCX H e s' z).elim
  · cases fl with
    | next => exact z.elim
    | brk => exact z.elim
    | cont => exact z.elim
    | ret u =>
      obtain ⟨v, H2, hos, hbare, un, hok2, rv, ev⟩ := z
      have ev : v = .bl true := ev
      rw [ev] at rv
      cases (show u = Value.bool true from rv)
      have more : ∀ p ∈ cs, ∃ ps : Array Value, s'.heap.get? p.2 = some (PySem.W.tabObj ps) := fun p hp => by
        obtain ⟨ps, q⟩ := un.tbls p.2 #[] (hH p hp)
        exact ⟨_, hok2 p.2 _ q⟩
      have same : ∀ b o, (¬ ∃ p ∈ cs, p.2 = b) → s1.heap.get? b = some o → s'.heap.get? b = some o := fun b o nb e => by
        rcases Option.eq_none_or_eq_some (H b) with q | ⟨u, q⟩
        · exact un.keep b o e q (fun z => absurd z (List.not_mem_nil (a := b))) (fun z => by simp at z)
        · rcases hO b with z | z | ⟨ob, xs, z⟩
          · rw [q] at z; cases z
          · exact absurd z nb
          · have t1 := (hok b _ z).1
            have t2 := (hok2 b _ (un.frzs b ob _ z)).1
            rw [e] at t1
            cases t1
            exact t2
      refine ⟨rfl, ⟨fun b o e => ?_, fun b o e => ?_⟩, hos, hbare⟩
      · by_cases hb : ∃ p ∈ cs, p.2 = b
        · obtain ⟨p, hp, z⟩ := hb
          subst z
          obtain ⟨ps, q⟩ := more p hp
          rw [hT p hp] at e
          cases e
          exact .inr (.inl ⟨((C p hp).tab (hT p hp)).isCodeTable, rfl, #[], ps, rfl, by rw [Array.empty_append]; exact q⟩)
        · exact .inl (same b o hb e)
      · by_cases hb : ∃ p ∈ cs, p.2 = b
        · obtain ⟨p, hp, z⟩ := hb
          subst z
          obtain ⟨ps, q⟩ := more p hp
          exact ⟨_, q⟩
        · exact ⟨o, same b o hb e⟩
open Classical in
theorem law_runT (KX : K.In s1.heap) (hns : s1.heap.Ns mainGlobals mg) (hb : s1.heap.Ns builtinsNs mb) (hbb : ∀ y : Str, y ≠ "__name__" → mb y = bootBuiltins y) (hlim : s1.heap.NoLimit) (hg : s1.gens = #[])
    (hT : ∀ p ∈ cs, s1.heap.get? p.2 = some (PySem.W.tabObj #[])) (nT : ∀ p ∈ cs, K.lookup p.2 = none) (C : ∀ p ∈ cs, PySem.W.CodeHd s1.heap p.1 p.2)
    (hbm : ∃ (bm : Addr) (ob : Obj), mg "__builtins__" = some (.ref bm) ∧ bm ≠ builtinsNs ∧ s1.heap.get? bm = some ob ∧ ob.cls = .type "module" ∧ ob.dict = some builtinsNs ∧ ob.data = .plain)
    (ha : s1.heap.get? a = some { cls := .type "list", data := .seq vs.toArray }) (hi : IntsAre vs ns) (hl : ns.length ≤ sizeLine) (hr : Room k callerA) (F : ∀ base : Heap, K.In base → base.Ns mainGlobals mg → (∀ p ∈ cs, LamX.TabB base mg p.1 p.2) → FnOk P w K mg base CX k fa fd [x] sp)
    (hbind : ∀ (s : Shared) (u : Value), BindsTo s fd ⟨[u], []⟩ [(x, u)])
    (hsp : ∀ H : Hp, (∀ p ∈ cs, H p.2 = some (.tbl #[])) → SqL K H a (ns.map V.int) → sp [.ref a] H (fun v _ => v = .bl true) fun _ _ _ => False) (hCX : ∀ H e s', CX [] H s1 (fun _ _ _ => False) e s' → False) :
    codeAny (model P w) callerA (.call (.ref fa) ⟨[.ref a], []⟩) (fun r s' => r = .ok (.ret (.bool true)) ∧ OldK s1.heap s'.heap ∧ s'.os = s1.os ∧ AllBare s'.gens) s1 := by
  have rv := vals_ints hi
  have lv := hi.length
  have nTa : ¬ ∃ p ∈ cs, p.2 = a := by
    rintro ⟨p, hp, z⟩
    have q := hT p hp
    rw [z, ha] at q
    cases (show Data.seq vs.toArray _ = Data.fields #[] from congrArg Obj.data (Option.some.inj q))
  let base : Hp := fun b => if ∃ p ∈ cs, p.2 = b then some (.tbl #[]) else none
  have bT : ∀ p ∈ cs, base p.2 = some (.tbl #[]) := fun p hp => if_pos ⟨p, hp, rfl⟩
  have bN : ∀ b, (¬ ∃ p ∈ cs, p.2 = b) → base b = none := fun b h => if_neg h
  have bO : ∀ b u, base b = some u → (∃ p ∈ cs, p.2 = b) ∧ u = .tbl #[] := fun b u e => by
    by_cases h : ∃ p ∈ cs, p.2 = b
    · rw [show base b = some (.tbl #[]) from if_pos h] at e
      exact ⟨h, (Option.some.inj e).symm⟩
    · rw [bN b h] at e; cases e
  have bok : ∀ b u, base b = some u → ObjOk P w base s1.heap b u := fun b u e => by
    obtain ⟨⟨p, hp, z⟩, rfl⟩ := bO b u e
    subst z
    exact hT p hp
  rcases Option.eq_none_or_eq_some (K.lookup a) with hk | ⟨o, hk⟩
  · let ho : HO := .frz { cls := .type "list", data := .seq vs.toArray } (.lst (ns.map V.int))
    have hH : (upd base a ho) a = some ho := upd_same
    have hn : ∀ b, b ≠ a → (upd base a ho) b = base b := fun b z => upd_ne z
    have hp2 : ∀ p ∈ cs, p.2 ≠ a := fun p hp z => nTa ⟨p, hp, z⟩
    refine law_coreT KX hns hb hbb hlim hg hT nT C hbm ha hr F hbind hCX (H := upd base a ho) (fun p hp => by rw [hn _ (hp2 p hp)]; exact bT p hp) (fun b => ?_) (hsp _ (fun p hp => by rw [hn _ (hp2 p hp)]; exact bT p hp) (.inl (.inr ⟨_, hH⟩))) ?_ (fun b z => ?_) fun _ => hk
    · by_cases z : b = a
      · exact .inr (.inr ⟨_, _, by rw [z]; exact hH⟩)
      · by_cases y : ∃ p ∈ cs, p.2 = b
        · exact .inr (.inl y)
        · exact .inl (by rw [hn b z]; exact bN b y)
    · intro b u z
      by_cases y : b = a
      · subst y
        rw [hH] at z
        cases z
        exact ⟨ha, by rw [List.length_map]; exact hl, vs, _, rv, ha⟩
      · rw [hn b y] at z
        obtain ⟨⟨p, hp, q⟩, rfl⟩ := bO b u z
        subst q
        exact hT p hp
    · by_cases y : b = a
      · exact .inl y
      · rw [hn b y] at z
        refine .inr (Classical.byContradiction fun q => z (bN b q))
  · have e := KX a o hk
    rw [ha] at e
    cases e
    have sq : SqL K base a (ns.map V.int) := .inr ⟨_, vs.toArray, _, hk, rfl, rfl, rfl, by rw [List.size_toArray, lv]; exact hl, by simpa using rv⟩
    refine law_coreT KX hns hb hbb hlim hg hT nT C hbm ha hr F hbind hCX (H := base) bT (fun b => ?_) (hsp _ bT sq) bok (fun b z => .inr (Classical.byContradiction fun q => z (bN b q))) fun z => absurd (bN a nTa) z
    by_cases y : ∃ p ∈ cs, p.2 = b
    · exact .inr (.inl y)
    · exact .inl (bN b y)
end
theorem walk_ofT {l : PySem.W.OpenLaw} {n k : Nat} {q : Program} {loose : List Str} {XP : (Str → Option Value) → Heap → Prop} {YP : World → Heap → Prop} {d : DefRec} {CX : World → CXT} {x : Str}
    (hn : l.most = some n) (hn2 : n ≤ sizeLine) (hdf : d.params.defaults = []) (hr : Room k callerA)
    (F : ∀ (w : World) (mg : Str → Option Value) (fa : Addr) (h : Heap), YP w h → h.Ns mainGlobals mg → mg d.name = some (.ref fa) →
      ∃ (K : PySem.W.Frag) (cs : List (Addr × Addr)) (fd : FuncData) (sp : Sp), K.In h ∧ (∀ p ∈ cs, h.get? p.2 = some (PySem.W.tabObj #[])) ∧ (∀ p ∈ cs, K.lookup p.2 = none) ∧ (∀ p ∈ cs, PySem.W.CodeHd h p.1 p.2) ∧ (∀ (s : Shared) (u : Value), BindsTo s fd ⟨[u], []⟩ [(x, u)]) ∧
        (∀ (H : Hp) (a : Addr) (ns : List Int), ns.length ≤ n → (∀ p ∈ cs, H p.2 = some (.tbl #[])) → SqL K H a (ns.map V.int) → sp [.ref a] H (fun v _ => v = .bl true) fun _ _ _ => False) ∧
        ∀ base : Heap, K.In base → base.Ns mainGlobals mg → (∀ p ∈ cs, LamX.TabB base mg p.1 p.2) → FnOk l.prog w K mg base (CX w) k fa fd [x] sp)
    (hCX : ∀ (w : World) (H : Hp) (s : Shared) (e : Value) (s' : Shared), CX w [] H s (fun _ _ _ => False) e s' → False) :
    PySem.W.WalkO q loose XP YP l.row.toRowW d [] (fun f vs => PySem.call f vs) := by
  refine Att.attach_call hn hdf fun w s₀ s₁ mg mb fa o pm cd doc a vs ns G Y ho hd hcd hmg hobj hints hlen hg => ?_
  obtain ⟨K, cs, fd, sp, KX, hT, nT, C, hb, hsp, hF⟩ := F w mg fa _ Y G.T.g hmg
  exact law_runT KX G.T.g G.T.b G.T.builtins G.T.nolimit hg hT nT C G.T.bmain hobj hints (Nat.le_trans hlen hn2) hr hF hb (fun H hH hS => hsp H a ns hlen hH hS) fun H e s' => hCX w H s₁ e s'
theorem entry {M : Gm} {H : Hp} {a : Addr} {ns : List Int} (hS : SqL M.K H a (ns.map V.int)) (hT : ∀ p ∈ M.T, H p.1 = some (.tbl #[])) : ∃ F, Same F H ∧ Tb M F H ∧ reps M F [.scr (ns.map D.int)] [.ref a] := by
  let F : Hp := fun b => match H b with
    | some (.tbl _) => none
    | x => x
  have hF : ∀ b o, F b = some o → H b = some o ∧ ∀ ps, o ≠ .tbl ps := fun b o e => by
    have e : (match H b with | some (.tbl _) => none | x => x) = some o := e
    split at e
    · cases e
    · rename_i q
      exact ⟨e, fun ps z => by subst z; exact q ps e⟩
  have hN : ∀ b o, H b = some o → (∀ ps, o ≠ .tbl ps) → F b = some o := fun b o e n => by
    show (match H b with | some (.tbl _) => none | x => x) = some o
    rw [e]
    cases o <;> first | rfl | exact absurd rfl (n _)
  refine ⟨F, fun b o e => (hF b o e).1, ⟨fun p hp => LamX.TabS.nil (hT p hp), fun p hp => ?_, fun b ps e => (hF b _ e).2 ps rfl⟩, reps_cons ?_ reps_nil⟩
  · show (match H p.1 with | some (.tbl _) => none | x => x) = none
    rw [hT p hp]
  · unfold rep
    refine ⟨a, _, rfl, ?_, reps_ints ns⟩
    rcases hS with (h | ⟨o, h⟩) | h
    · exact .inl (.inl (hN _ _ h fun ps z => nomatch z))
    · exact .inl (.inr ⟨o, hN _ _ h fun ps z => nomatch z⟩)
    · exact .inr h
end
end TS

namespace TS
open PySem L2
noncomputable section
def iL (xs : List Int) : List D := xs.map D.int
@[simp] theorem iL_len (xs : List Int) : (iL xs).length = xs.length := by simp [iL]
@[simp] theorem iL_nil : iL [] = [] := rfl
theorem iL_cons (x : Int) (xs : List Int) : iL (x :: xs) = .int x :: iL xs := rfl
theorem iL_app (xs ys : List Int) : iL (xs ++ ys) = iL xs ++ iL ys := by simp [iL]
theorem toPs_ints : ∀ xs : List Int, toPs (iL xs) = some (xs.map PyData.int)
  | [] => by simp [toPs]
  | x :: xs => by
    have := toPs_ints xs
    simp only [iL, List.map_cons] at this ⊢
    simp [toPs, toP, this]
theorem canLay_ints : ∀ xs : List Int, PyData.canLayAll0 (xs.map PyData.int) = true
  | [] => by simp [PyData.canLayAll0]
  | x :: xs => by simp [PyData.canLayAll0, PyData.canLay0, canLay_ints xs]
theorem depth_ints : ∀ xs : List Int, PyData.depthAll (xs.map PyData.int) ≤ 1
  | [] => by simp [PyData.depthAll]
  | x :: xs => by
    have := depth_ints xs
    simp only [List.map_cons, PyData.depthAll, PyData.depth]
    omega
theorem shaped_l (xs : List Int) : SeqAt.shaped (.list (xs.map PyData.int)) = true := by
  have := depth_ints xs
  unfold SeqAt.shaped
  rw [Bool.and_eq_true]
  refine ⟨by simp only [PyData.canLay0]; exact canLay_ints xs, decide_eq_true ?_⟩
  simp only [PyData.depth]
  omega
theorem eqvAll_ints : ∀ xs ys : List Int, PyData.eqvAll (xs.map PyData.int) (ys.map PyData.int) = decide (xs = ys)
  | [], [] => by simp [PyData.eqvAll]
  | [], y :: ys => by simp [PyData.eqvAll]
  | x :: xs, [] => by simp [PyData.eqvAll]
  | x :: xs, y :: ys => by
    simp only [List.map_cons, PyData.eqvAll, eqvAll_ints xs ys, eqvI]
    by_cases h : x = y
    · by_cases h2 : xs = ys <;> simp [h, h2]
    · simp [h]
theorem toP_l (xs : List Int) : toP (.lst (iL xs)) = some (.list (xs.map PyData.int)) := by
  unfold toP; rw [toPs_ints]; rfl
@[simp] theorem gEq_l (xs ys : List Int) : gEq (.lst (iL xs)) (.lst (iL ys)) = some (.imm (.bl (decide (xs = ys)))) := by
  simp only [gEq, toP_l, shaped_l, Bool.and_self, if_true, PyData.eqv, eqvAll_ints]
@[simp] theorem gNe_l (xs ys : List Int) : gNe (.lst (iL xs)) (.lst (iL ys)) = some (.imm (.bl (!decide (xs = ys)))) := by
  simp only [gNe, toP_l, shaped_l, Bool.and_self, if_true, PyData.eqv, eqvAll_ints]
theorem intsD_ints : ∀ xs : List Int, intsD (iL xs) = some xs
  | [] => rfl
  | x :: xs => by
    have := intsD_ints xs
    simp only [iL, List.map_cons] at this ⊢
    simp [intsD, this]
theorem gMax_l {xs : List Int} (h : 0 < xs.length) : gMax [.lst (iL xs)] = some (.imm (.int (maxL xs))) := by
  have e : gMax2 [.lst (iL xs)] = none := rfl
  simp only [gMax, gcOr, e, gMaxL, intsD_ints]
  simp [h]
@[simp] theorem gMax_2 (i j : Int) : gMax [.int i, .int j] = some (.imm (.int (if j > i then j else i))) := rfl
@[simp] theorem gMin_2 (i j : Int) : gMin [.int i, .int j] = some (.imm (.int (if j < i then j else i))) := rfl
theorem atI_ints (xs : List Int) (i : Int) : atI (iL xs) i = (atI xs i).map D.int := by
  unfold atI
  simp only [iL, List.length_map]
  cases ixN xs.length i with
  | none => rfl
  | some j => simp
theorem atI_in {α : Type} {xs : List α} {n : Nat} (h : n < xs.length) : atI xs (n : Int) = some xs[n] := by
  unfold atI ixN
  simp [h]
theorem gIx_ints {xs : List Int} {n : Nat} (h : n < xs.length) : gIx (.lst (iL xs)) (.int (n : Int)) = some (.imm (.int xs[n])) := by
  rw [gIx_l, atI_ints, atI_in h]; rfl
theorem flatten_ints (k : Nat) (xs : List Int) : (List.replicate k (iL xs)).flatten = iL (List.replicate k xs).flatten := by
  induction k with
  | zero => rfl
  | succ k ih => rw [List.replicate_succ, List.replicate_succ, List.flatten_cons, List.flatten_cons, ih, iL, iL, iL, List.map_append]
theorem gRep_ints {xs : List Int} {k : Int} (h0 : 0 ≤ k) (h1 : k < 9223372036854775808) (h2 : xs.length * k.toNat ≤ 16777216) : gMul (.lst (iL xs)) (.int k) = some (.own (.l (iL (List.replicate k.toNat xs).flatten))) := by
  have e : gI CMulB (fun i j => i * j) (.lst (iL xs)) (.int k) = none := rfl
  have e2 : gd (0 ≤ k ∧ k < 9223372036854775808 ∧ (iL xs).length * k.toNat ≤ 16777216) = true := gd_true ⟨h0, h1, by simpa [iL] using h2⟩
  simp only [gMul, gOr, e, gRep, e2, if_true, flatten_ints]
theorem gRep_nat {xs : List Int} {k : Nat} (h1 : k ≤ 16777216) (h2 : xs.length * k ≤ 16777216) : gMul (.lst (iL xs)) (.int (k : Int)) = some (.own (.l (iL (List.replicate k xs).flatten))) := by
  have e := gRep_ints (xs := xs) (k := (k : Int)) (by omega) (by omega) (by simpa using h2)
  rw [Int.toNat_natCast] at e
  exact e
theorem cut_to (xs : List Int) (n : Nat) : cutD (iL xs) none (some (n : Int)) = iL (xs.take n) := by
  unfold cutD
  rw [HT.sIx_none, HT.sIx_nat, List.drop_zero, Nat.sub_zero, iL, iL, List.length_map, ← List.map_take]
  congr 1
  by_cases h : n ≤ xs.length
  · rw [Nat.min_eq_left h]
  · rw [Nat.min_eq_right (by omega), List.take_of_length_le (Nat.le_refl _), List.take_of_length_le (by omega)]
section
variable (δ : Sl)
@[simp] theorem ap_fOwnIo (f : Fm) (i : Nat) (fa : FA) : fOwnIo f i fa δ = match δ[i]? with
  | some (some r0) => if r0.mu then (fa δ).bind fun ds δ1 => match δ1[i]? with
      | some (some (.own o)) => (match f (some o) ds with
        | .ok r (some o') => .ok r (δ1.set i (some (.own o')))
        | .exc x (some o') => .exc x (δ1.set i (some (.own o')))
        | _ => .bad)
      | some (some (.brw o)) => (match f (some o) ds with
        | .ok r (some o') => .ok r (δ1.set i (some (.brw o')))
        | .exc x (some o') => .exc x (δ1.set i (some (.brw o')))
        | _ => .bad)
      | _ => .bad
    else .bad
  | _ => .bad := id rfl
@[simp] theorem ap_fMut (i : Nat) (m : List D → List D → Option (D × List D)) (fa : FA) : fMut i m fa δ = match getL δ i with
  | none => .bad
  | some _ => (fa δ).bind fun as δ1 => match getL δ1 i with
    | none => .bad
    | some ds => match m ds as with
      | none => .bad
      | some (z, ds') => .ok z (match δ1[i]? with
        | some (some (.own _)) => δ1.set i (some (.own (.l ds')))
        | _ => δ1.set i (some (.brw (.l ds')))) := id rfl
@[simp] theorem ap_getL (i : Nat) : getL δ i = match δ[i]? with | some (some (.own (.l ds))) => some ds | some (some (.brw (.l ds))) => some ds | _ => none := id rfl
end
theorem erase_map {α β : Type} (f : α → β) : ∀ (l : List α) (n : Nat), (l.map f).eraseIdx n = (l.eraseIdx n).map f
  | [], n => by simp
  | a :: l, 0 => by simp
  | a :: l, n + 1 => by simp [erase_map f l n]
theorem erase_perm {α : Type} : ∀ (l : List α) (n : Nat) (h : n < l.length), (l[n] :: l.eraseIdx n).Perm l
  | a :: l, 0, h => by simp
  | a :: l, n + 1, h => by
    simp only [List.getElem_cons_succ, List.eraseIdx_cons_succ]
    exact (List.Perm.swap _ _ _).trans ((erase_perm l n (by simpa using h)).cons a)
theorem mAppend_int {xs : List Int} (h : xs.length < 16777216) (d : Int) : mAppend (iL xs) [.int d] = some (.non, iL (xs ++ [d])) := by
  simp only [mAppend, iL_len, h, if_true, iL_app]; rfl
theorem rgOk_nat {k : Nat} (h : k ≤ 16777216) : rgOkB 0 (k : Int) = true := by
  unfold rgOkB
  refine gd_true ?_
  refine ⟨?_, ?_, ?_, ?_, ?_⟩ <;> omega
theorem rg1_nat {k : Nat} (h : k ≤ 16777216) : gd (-4611686018427387904 ≤ (k : Int) ∧ (k : Int) < 4611686018427387904) = true := by
  refine gd_true ?_
  refine ⟨?_, ?_⟩ <;> omega
theorem rg2_nat {i k : Nat} (h0 : i ≤ 16777216) (h : k ≤ 16777216) : gd (-4611686018427387904 ≤ (i : Int) ∧ (i : Int) < 4611686018427387904 ∧ -4611686018427387904 ≤ (k : Int) ∧ (k : Int) < 4611686018427387904) = true := by
  refine gd_true ?_
  refine ⟨?_, ?_, ?_, ?_⟩ <;> omega
def nats (i k : Nat) : List Int := (List.range' i k).map fun z : Nat => (z : Int)
theorem rgD_nats (k : Nat) : rgD 0 (k : Int) = iL (nats 0 k) := by simp [rgD, iL, nats, List.range_eq_range']
theorem nats_len (i k : Nat) : (nats i k).length = k := by simp [nats]
theorem nats_succ (i k : Nat) : iL (nats i (k + 1)) = .int (i : Int) :: iL (nats (i + 1) k) := by simp [nats, iL, List.range'_succ]
theorem fLRg1_ok {f : FD} {δ : Sl} {k : Nat} (h : k ≤ 16777216) (e : f δ = .ok (.int (k : Int)) δ) : fLRg1 f δ = .ok (.own (.l (iL (nats 0 k)))) δ := by
  unfold fLRg1
  rw [e, Res.bind_ok]
  show (if rgOkB 0 (k : Int) = true then Res.ok (R.own (.l (rgD 0 (k : Int)))) δ else .bad) = _
  rw [if_pos (rgOk_nat h), rgD_nats]
theorem itRg1_ok {f : FD} {δ : Sl} {k : Nat} (h : k ≤ 16777216) (e : f δ = .ok (.int (k : Int)) δ) : itRg1 f δ = .ok (iL (nats 0 k)) δ := by
  unfold itRg1
  rw [e, Res.bind_ok]
  show (if gd (-4611686018427387904 ≤ (k : Int) ∧ (k : Int) < 4611686018427387904) = true then Res.ok (rgD 0 (k : Int)) δ else .bad) = _
  rw [if_pos (rg1_nat h), rgD_nats]
end
end TS

namespace TS
def act (t : List Int) (x : Int) : Int := t.getD (x % (t.length : Int)).toNat 0
def PerF (f : Int → Int) (p : Int) : Prop := ∀ x, f (x + p) = f x
theorem PerF.neg {f : Int → Int} {p : Int} (h : PerF f p) : PerF f (-p) := fun x => by
  have := h (x + -p)
  rw [← this]; congr 1; omega
theorem PerF.add {f : Int → Int} {p q : Int} (h : PerF f p) (h' : PerF f q) : PerF f (p + q) := fun x => by
  rw [← Int.add_assoc, h' (x + p), h x]
theorem PerF.zero {f : Int → Int} : PerF f 0 := fun x => by rw [Int.add_zero]
theorem PerF.mulN {f : Int → Int} {p : Int} (h : PerF f p) : ∀ n : Nat, PerF f (n * p)
  | 0 => by simpa using PerF.zero
  | n + 1 => by
    have := (PerF.mulN h n).add h
    have e : ((n + 1 : Nat) : Int) * p = n * p + p := by push_cast; rw [Int.add_mul, Int.one_mul]
    rw [e]; exact this
theorem PerF.mul {f : Int → Int} {p : Int} (h : PerF f p) (k : Int) : PerF f (k * p) := by
  rcases Int.le_total 0 k with hk | hk
  · obtain ⟨n, rfl⟩ := Int.eq_ofNat_of_zero_le hk
    exact h.mulN n
  · obtain ⟨n, e⟩ := Int.eq_ofNat_of_zero_le (show 0 ≤ -k by omega)
    have := (h.mulN n).neg
    have e2 : -((n : Int) * p) = k * p := by
      have : k = -(n : Int) := by omega
      rw [this, Int.neg_mul]
    rw [← e2]; exact this
theorem PerF.gcd {f : Int → Int} (p q : Nat) : PerF f p → PerF f q → PerF f (Nat.gcd p q : Nat) := by
  refine Nat.gcd.induction (P := fun p q => PerF f (p : Int) → PerF f (q : Int) → PerF f ((Nat.gcd p q : Nat) : Int)) p q (fun n _ h => ?_) fun m n hm ih h1 h2 => ?_
  · rw [Nat.gcd_zero_left]; exact h
  · rw [Nat.gcd_rec]
    refine ih ?_ h1
    have e : ((n % m : Nat) : Int) = n + (-((n / m : Nat) : Int)) * m := by
      have := Nat.div_add_mod n m
      have h3 : (n : Int) = (m : Int) * ((n / m : Nat) : Int) + ((n % m : Nat) : Int) := by exact_mod_cast this.symm
      rw [Int.neg_mul, Int.mul_comm]; omega
    rw [e]
    exact h2.add (h1.mul _)
theorem act_per (t : List Int) : PerF (act t) t.length := fun x => by
  unfold act
  rw [Int.add_emod_right]
end TS

namespace TS
theorem rep_get (s : List Int) : ∀ (k i : Nat), i < k * s.length → (List.replicate k s).flatten.getD i 0 = s.getD (i % s.length) 0
  | 0, i, h => by simp at h
  | k + 1, i, h => by
    rw [List.replicate_succ, List.flatten_cons, List.getD_eq_getElem?_getD]
    by_cases hi : i < s.length
    · rw [List.getElem?_append_left hi, Nat.mod_eq_of_lt hi, List.getD_eq_getElem?_getD]
    · have hs : i - s.length < k * s.length := by rw [Nat.succ_mul] at h; omega
      rw [List.getElem?_append_right (by omega), ← List.getD_eq_getElem?_getD, rep_get s k _ hs, Nat.mod_eq_sub_mod (by omega : s.length ≤ i)]
def repOf (p : Nat) (t : List Int) : List Int := (List.replicate (t.length / p) (t.take p)).flatten
def isPer (t : List Int) (p : Nat) : Bool := decide (t.length % p = 0) && decide (repOf p t = t)
theorem repOf_length {p : Nat} {t : List Int} (hp : 0 < p) (hd : p ∣ t.length) (h0 : 0 < t.length) : (repOf p t).length = t.length := by
  have hle : p ≤ t.length := Nat.le_of_dvd h0 hd
  unfold repOf
  have e : ∀ k : Nat, ((List.replicate k (t.take p)).flatten).length = k * p := fun k => by
    induction k with
    | zero => simp
    | succ k ih => rw [List.replicate_succ, List.flatten_cons, List.length_append, ih, List.length_take, Nat.min_eq_left hle, Nat.succ_mul, Nat.add_comm]
  rw [e]
  exact Nat.div_mul_cancel hd
theorem getD_ext {a b : List Int} (hl : a.length = b.length) (h : ∀ i, i < b.length → a.getD i 0 = b.getD i 0) : a = b := by
  apply List.ext_getElem hl
  intro i h1 h2
  have := h i h2
  rw [List.getD_eq_getElem?_getD, List.getD_eq_getElem?_getD, List.getElem?_eq_getElem h1, List.getElem?_eq_getElem h2] at this
  exact this
theorem act_nat {t : List Int} {i : Nat} (h : i < t.length) : act t i = t.getD i 0 := by
  unfold act
  rw [Int.emod_eq_of_lt (by omega) (by omega)]
  rfl
theorem act_mod (t : List Int) (x : Int) : act t (x % t.length) = act t x := by
  unfold act
  rw [Int.emod_emod_of_dvd _ (Int.dvd_refl _)]
theorem per_mod {f : Int → Int} {p : Int} (h : PerF f p) (x : Int) : f (x % p) = f x := by
  have := h.mul (-(x / p)) x
  rw [← this]
  congr 1
  have := Int.emod_add_mul_ediv x p
  rw [Int.neg_mul, Int.mul_comm]; omega
theorem isPer_iff {t : List Int} {p : Nat} (hp : 0 < p) (h0 : 0 < t.length) (hd : p ∣ t.length) : repOf p t = t ↔ PerF (act t) p := by
  have hle : p ≤ t.length := Nat.le_of_dvd h0 hd
  have key : ∀ i, i < t.length → (repOf p t).getD i 0 = t.getD (i % p) 0 := fun i hi => by
    have hl : (t.take p).length = p := by rw [List.length_take, Nat.min_eq_left hle]
    unfold repOf
    rw [rep_get (t.take p) (t.length / p) i (by rw [hl, Nat.div_mul_cancel hd]; exact hi), hl, List.getD_eq_getElem?_getD, List.getElem?_take_of_lt (Nat.mod_lt _ hp), List.getD_eq_getElem?_getD]
  have hb : ∀ x : Int, 0 ≤ x % (t.length : Int) ∧ x % (t.length : Int) < t.length := fun x => ⟨Int.emod_nonneg _ (by omega), Int.emod_lt_of_pos _ (by omega)⟩
  constructor
  · intro e x
    have step : ∀ y : Int, act t y = act t (y % (p : Int)) := fun y => by
      obtain ⟨b1, b2⟩ := hb y
      obtain ⟨i, ei⟩ := Int.eq_ofNat_of_zero_le b1
      have hi : i < t.length := by omega
      have q := key i hi
      rw [e] at q
      have hm : i % p < t.length := Nat.lt_of_lt_of_le (Nat.mod_lt _ hp) hle
      rw [← act_mod t y, ei, act_nat hi, q, ← act_nat hm]
      have : y % (p : Int) = ((i % p : Nat) : Int) := by
        rw [← Int.emod_emod_of_dvd y (Int.natCast_dvd_natCast.mpr hd), ei]; rfl
      rw [this]
    rw [step (x + p), Int.add_emod_right, ← step x]
  · intro h
    refine getD_ext (repOf_length hp hd h0) fun i hi => ?_
    rw [key i hi]
    have hm : i % p < t.length := Nat.lt_of_lt_of_le (Nat.mod_lt _ hp) hle
    rw [← act_nat hi, ← act_nat hm, ← per_mod h i]
    rfl
end TS

namespace TS
def leastP (t : List Int) : Nat := ((List.range' 1 (t.length - 1)).find? (isPer t)).getD t.length
def least (t : List Int) : List Int := t.take (leastP t)
structure IsMin (f : Int → Int) (p : Nat) : Prop where
  pos : 0 < p
  per : PerF f p
  min : ∀ q : Nat, 0 < q → PerF f q → p ≤ q
theorem isPer_spec {t : List Int} {p : Nat} (hp : 0 < p) (h0 : 0 < t.length) : isPer t p = true ↔ p ∣ t.length ∧ PerF (act t) p := by
  unfold isPer
  rw [Bool.and_eq_true, decide_eq_true_eq, decide_eq_true_eq, ← Nat.dvd_iff_mod_eq_zero]
  exact ⟨fun h => ⟨h.1, (isPer_iff hp h0 h.1).mp h.2⟩, fun h => ⟨h.1, (isPer_iff hp h0 h.1).mpr h.2⟩⟩
theorem leastP_dvd {t : List Int} (h0 : 0 < t.length) : leastP t ∣ t.length ∧ 0 < leastP t ∧ PerF (act t) (leastP t) := by
  unfold leastP
  cases e : (List.range' 1 (t.length - 1)).find? (isPer t) with
  | none => exact ⟨Nat.dvd_refl _, h0, act_per t⟩
  | some p =>
    have h1 := List.find?_some e
    have h2 := List.mem_of_find?_eq_some e
    rw [List.mem_range'_1] at h2
    obtain ⟨k1, k2⟩ := (isPer_spec (by omega) h0).mp h1
    exact ⟨k1, by simp; omega, k2⟩
theorem leastP_le {t : List Int} (h0 : 0 < t.length) {p : Nat} (hp : 0 < p) (hd : p ∣ t.length) (h : PerF (act t) p) : leastP t ≤ p := by
  have hle := Nat.le_of_dvd h0 hd
  by_cases hn : p = t.length
  · subst hn
    exact Nat.le_of_dvd h0 (leastP_dvd h0).1
  · unfold leastP
    cases e : (List.range' 1 (t.length - 1)).find? (isPer t) with
    | none =>
      have := List.find?_eq_none.mp e p (by rw [List.mem_range'_1]; omega)
      exact absurd ((isPer_spec hp h0).mpr ⟨hd, h⟩) this
    | some q =>
      obtain ⟨as, bs, e1, e2⟩ := (List.find?_eq_some_iff_append.mp e).2
      show q ≤ p
      rcases Nat.lt_or_ge p q with hlt | hge
      · exfalso
        have hm : p ∈ as := by
          have hq : p ∈ List.range' 1 (t.length - 1) := by rw [List.mem_range'_1]; omega
          rw [e1] at hq
          have hs : (List.range' 1 (t.length - 1)).Pairwise (· < ·) := List.pairwise_lt_range'
          rw [e1] at hs
          rcases List.mem_append.mp hq with z | z
          · exact z
          · rcases List.mem_cons.mp z with z | z
            · omega
            · have := (List.pairwise_cons.mp (List.pairwise_append.mp hs).2.1).1 p z
              omega
        have := e2 p hm
        have k := (isPer_spec hp h0).mpr ⟨hd, h⟩
        simp [k] at this
      · exact hge
theorem leastP_min {t : List Int} (h0 : 0 < t.length) : IsMin (act t) (leastP t) := by
  obtain ⟨h1, h2, h3⟩ := leastP_dvd h0
  refine ⟨h2, h3, fun q hq hper => ?_⟩
  have hg := PerF.gcd q t.length hper (act_per t)
  have hgp : 0 < Nat.gcd q t.length := Nat.gcd_pos_of_pos_left _ hq
  exact Nat.le_trans (leastP_le h0 hgp (Nat.gcd_dvd_right _ _) hg) (Nat.le_of_dvd hq (Nat.gcd_dvd_left _ _))
theorem least_length {t : List Int} (h0 : 0 < t.length) : (least t).length = leastP t := by
  unfold least
  rw [List.length_take, Nat.min_eq_left (Nat.le_of_dvd h0 (leastP_dvd h0).1)]
theorem least_act {t : List Int} (h0 : 0 < t.length) : act (least t) = act t := by
  funext x
  obtain ⟨h1, h2, h3⟩ := leastP_dvd h0
  have hle := Nat.le_of_dvd h0 h1
  rw [← per_mod h3 x]
  have b1 := Int.emod_nonneg x (show (leastP t : Int) ≠ 0 by omega)
  have b2 := Int.emod_lt_of_pos x (show 0 < (leastP t : Int) by omega)
  obtain ⟨i, ei⟩ := Int.eq_ofNat_of_zero_le b1
  have hi : i < leastP t := by omega
  rw [← act_mod (least t) x, least_length h0, ei]
  rw [act_nat (by rw [least_length h0]; exact hi), act_nat (by omega)]
  unfold least
  rw [List.getD_eq_getElem?_getD, List.getElem?_take_of_lt hi, List.getD_eq_getElem?_getD]
theorem least_pos {t : List Int} (h0 : 0 < t.length) : 0 < (least t).length := by rw [least_length h0]; exact (leastP_dvd h0).2.1
theorem least_le {t : List Int} (h0 : 0 < t.length) : (least t).length ≤ t.length := by rw [least_length h0]; exact Nat.le_of_dvd h0 (leastP_dvd h0).1
end TS

namespace TS
open PySem L2
noncomputable section
section
variable (δ : Sl)
@[simp] theorem ap_fMake (n : Nat) (f : Fm) (fa : FA) : fMake n f fa δ = (fa δ).bind fun ds δ1 => match f (some (.o n [])) ds with
  | .ok (.imm .non) (some (.o n' vs)) => if n' = n then .ok (.own (.o n vs)) δ1 else .bad
  | .exc x _ => .exc x δ1
  | _ => .bad := id rfl
@[simp] theorem ap_fMakeL (n i : Nat) (f : Fm) (fa : FA) : fMakeL n i f fa δ = match δ[i]? with
  | some (some (.imm (.cls n'))) => if n' = n then fMake n f fa δ else .bad
  | _ => .bad := id rfl
@[simp] theorem ap_fCMeth (n : Nat) (f : Fm) (fa : FA) : fCMeth n f fa δ = (fa δ).bind fun ds δ1 => outE (f none (.cls n :: ds)) δ1 := id rfl
@[simp] theorem ap_sFldS (i : Nat) (ix : Nat → Option Nat) (fe : FD) : sFldS i ix fe δ = (fe δ).bindS fun d δ1 => match δ1[i]? with
  | some (some (.own (.o n vs))) => (match ix n with
    | some j => (match setF vs j d with
      | some vs' => .nx (δ1.set i (some (.own (.o n vs'))))
      | none => .bad)
    | none => .bad)
  | some (some (.brw (.o n vs))) => (match ix n with
    | some j => (match setF vs j d with
      | some vs' => .nx (δ1.set i (some (.brw (.o n vs'))))
      | none => .bad)
    | none => .bad)
  | _ => .bad := id rfl
@[simp] theorem ap_fOwnT (f : Fm) (fe : FE) : fOwnT f fe δ = (fe δ).bind fun r δ1 => match r with
  | .own o => outE (f (some o) []) δ1
  | _ => .bad := id rfl
@[simp] theorem ap_fProp (tab : Nat → Option Fm) (fo : FD) : fProp tab fo δ = (fo δ).bind fun d δ1 => match d with
  | .obj n vs => (match tab n with
    | some f => (match f none [.obj n vs] with
      | .ok (.imm d) _ => .ok d δ1
      | _ => .bad)
    | none => .bad)
  | _ => .bad := id rfl
@[simp] theorem ap_fOwnK0 (f : Fm) (m : Nat) (fk : FA) : fOwnK0 f m fk δ = (fk δ).bind fun es δ2 => if es.length = m then outE (f none es) δ2 else .bad := id rfl
@[simp] theorem ap_fOwnK (f : Fm) (n m : Nat) (fa fk : FA) : fOwnK f n m fa fk δ = (fa δ).bind fun ds δ1 => (fk δ1).bind fun es δ2 => if ds.length = n ∧ es.length = m then outE (f none (ds ++ es)) δ2 else .bad := id rfl
@[simp] theorem ap_tTrue : tTrue δ = .ok true δ := id rfl
@[simp] theorem ap_sNev : sNev δ = .bad := id rfl
@[simp] theorem ap_fSlV (i : Nat) (fl fh : FO) : fSlV i fl fh δ = if there δ i then (fl δ).bind fun lo δ => (fh δ).bind fun hi δ => (vP i δ).bind fun d δ => match gSl d lo hi with | some r => .ok r δ | none => .bad else .bad := id rfl
end
theorem pow_7 : gPow (.int 10) (.int 7) = some (.imm (.int 10000000)) := by rw [gPow_i (by decide) (by decide) (by decide)]; rfl
theorem pow_18 : gPow (.int 10) (.int 18) = some (.imm (.int 1000000000000000000)) := by rw [gPow_i (by decide) (by decide) (by decide)]; rfl
theorem set_get {α : Type} (l : List α) (i : Nat) (a : α) (h : l[i]? = some a) : l.set i a = l := by
  apply List.ext_getElem?
  intro j
  rw [List.getElem?_set]
  split
  · rename_i e; subst e; split
    · exact h.symm
    · rename_i z; rw [List.getElem?_eq_none (by omega)]
  · rfl
theorem lc_map {α : Type} {inj : α → D} (out : α → D) {i : Nat} {fi : FA} {fe : FD} {δ δ1 : Sl} {xs : List α} (h1 : fi δ = .ok (xs.map inj) δ1) (hfree : freeS δ1 i = true) (hlen : xs.length ≤ 16777216)
    (he : ∀ x ∈ xs, fe (δ1.set i (some (.imm (inj x)))) = .ok (out x) (δ1.set i (some (.imm (inj x))))) : fLc (stName i) [i] fi tTrue fe δ = .ok (.own (.l (xs.map out))) δ1 := by
  have key : ∀ (ys : List α) (acc : List D), (∀ y ∈ ys, y ∈ xs) → acc.length + ys.length ≤ 16777216 → lcL (stName i) [i] tTrue fe (ys.map inj) acc (δ1.set i none) = .ok (acc ++ ys.map out) (δ1.set i none) := by
    intro ys
    induction ys with
    | nil => intro acc _ _; simp [lcL]
    | cons y ys ih =>
      intro acc hm hl
      have e := he y (hm y (by simp))
      simp only [List.map_cons, lcL, stName, List.set_set, ap_tTrue, noX, Res.bind_ok, if_true, e]
      rw [if_pos (by simp at hl; omega)]
      show lcL (stName i) [i] tTrue fe (ys.map inj) (acc ++ [out y]) ((δ1.set i (some (.imm (inj y)))).set i none) = _
      rw [List.set_set, ih (acc ++ [out y]) (fun z hz => hm z (by simp [hz])) (by simp at hl ⊢; omega)]
      simp
  obtain ⟨o, ho⟩ : ∃ o, δ1[i]? = some o := by
    unfold freeS at hfree
    cases q : δ1[i]? with
    | none => rw [q] at hfree; cases hfree
    | some o => exact ⟨o, rfl⟩
  unfold fLc
  rw [h1, Res.bind_ok]
  simp only [List.all_cons, List.all_nil, Bool.and_true, hfree, if_true]
  show ((lcL (stName i) [i] tTrue fe (xs.map inj) [] (δ1.set i none)).bind fun acc δ2 => Res.ok (R.own (.l acc)) (restD δ1 [i] δ2)) = _
  rw [key xs [] (fun _ h => h) (by simpa using hlen), Res.bind_ok]
  simp only [List.nil_append, restD, ho, Option.join, List.set_set]
  rw [set_get _ _ _ (by rw [ho]; rfl)]
theorem lc_ints {i : Nat} {fi : FA} {fe : FD} {δ δ1 : Sl} {xs : List Int} (f : Int → Int) (h1 : fi δ = .ok (iL xs) δ1) (hfree : freeS δ1 i = true) (hlen : xs.length ≤ 16777216)
    (he : ∀ x ∈ xs, fe (δ1.set i (some (.imm (.int x)))) = .ok (.int (f x)) (δ1.set i (some (.imm (.int x))))) : fLc (stName i) [i] fi tTrue fe δ = .ok (.own (.l (iL (xs.map f)))) δ1 := by
  have e := lc_map (xs := xs) (inj := D.int) (fun x => .int (f x)) h1 hfree hlen he
  rw [e]
  simp [iL]
theorem lc_intsD {i : Nat} {fi : FA} {fe : FD} {δ δ1 : Sl} {xs : List Int} (f : Int → D) (h1 : fi δ = .ok (iL xs) δ1) (hfree : freeS δ1 i = true) (hlen : xs.length ≤ 16777216)
    (he : ∀ x ∈ xs, fe (δ1.set i (some (.imm (.int x)))) = .ok (f x) (δ1.set i (some (.imm (.int x))))) : fLc (stName i) [i] fi tTrue fe δ = .ok (.own (.l (xs.map f))) δ1 :=
  lc_map (xs := xs) (inj := D.int) f h1 hfree hlen he
theorem setOB_int {acc : List Int} {j : Int} (h0 : 0 ≤ j) (h1 : j < acc.length) (v : Int) : setOB (.l (iL acc)) (.int j) (.int v) = some (.l (iL (acc.set j.toNat v))) := by
  have : ixN (iL acc).length j = some j.toNat := by
    unfold ixN
    simp [h0, h1]
  have e : (iL acc).set j.toNat (.int v) = iL (acc.set j.toNat v) := by simp only [iL, List.map_set]
  simp only [setOB, this, Option.map_some, e]
theorem ix_mod {t : List Int} (h : 0 < t.length) (x : Int) : gIx (.lst (iL t)) (.int (x % t.length)) = some (.imm (.int (act t x))) := by
  have b1 := Int.emod_nonneg x (show (t.length : Int) ≠ 0 by omega)
  have b2 := Int.emod_lt_of_pos x (show 0 < (t.length : Int) by omega)
  obtain ⟨i, ei⟩ := Int.eq_ofNat_of_zero_le b1
  have hi : i < t.length := by omega
  have ea : act t x = t[i] := by rw [← act_mod, ei, act_nat hi, List.getD_eq_getElem?_getD, List.getElem?_eq_getElem hi]; rfl
  rw [ei, gIx_ints hi, ea]
theorem lc_inv {α : Type} {inj : α → D} {i : Nat} {fi : FA} {fe : FD} {δ δ1 : Sl} {xs : List α} (I : List α → List D → Sl → Prop) (h1 : fi δ = .ok (xs.map inj) δ1) (hfree : freeS δ1 i = true) (hlen : xs.length ≤ 16777216)
    (h0 : I [] [] (δ1.set i none))
    (he : ∀ pre x post acc δ, xs = pre ++ x :: post → I pre acc δ → ∃ y δ', fe (δ.set i (some (.imm (inj x)))) = .ok y δ' ∧ I (pre ++ [x]) (acc ++ [y]) (δ'.set i none)) :
    ∃ acc δ2, acc.length = xs.length ∧ I xs acc δ2 ∧ fLc (stName i) [i] fi tTrue fe δ = .ok (.own (.l acc)) (δ2.set i ((δ1[i]?).join)) := by
  have key : ∀ (post pre : List α) (acc : List D) (δ : Sl), xs = pre ++ post → acc.length = pre.length → I pre acc δ → ∃ acc' δ2, acc'.length = xs.length ∧ I xs acc' δ2 ∧ lcL (stName i) [i] tTrue fe (post.map inj) acc δ = .ok acc' δ2 := by
    intro post
    induction post with
    | nil =>
      intro pre acc δ e hl hI
      have : xs = pre := by simpa using e
      subst this
      exact ⟨acc, δ, hl, hI, rfl⟩
    | cons y ys ih =>
      intro pre acc δ e hl hI
      obtain ⟨z, δ', e1, hI'⟩ := he pre y ys acc δ e hI
      obtain ⟨acc', δ2, l2, i2, e2⟩ := ih (pre ++ [y]) (acc ++ [z]) (δ'.set i none) (by simp [e]) (by simp [hl]) hI'
      refine ⟨acc', δ2, l2, i2, ?_⟩
      simp only [List.map_cons, lcL, stName, ap_tTrue, noX, Res.bind_ok, if_true, e1]
      rw [if_pos (by rw [hl]; rw [e] at hlen; simp at hlen; omega)]
      exact e2
  obtain ⟨acc, δ2, l2, i2, e2⟩ := key xs [] [] (δ1.set i none) rfl rfl h0
  refine ⟨acc, δ2, l2, i2, ?_⟩
  unfold fLc
  rw [h1, Res.bind_ok]
  simp only [List.all_cons, List.all_nil, Bool.and_true, hfree, if_true]
  show ((lcL (stName i) [i] tTrue fe (xs.map inj) [] (δ1.set i none)).bind fun acc δ2 => Res.ok (R.own (.l acc)) (restD δ1 [i] δ2)) = _
  rw [e2, Res.bind_ok]
  rfl
theorem for_inv {α : Type} {inj : α → D} {tg : R → Sl → SR} {body : FS} {δ : Sl} {xs : List α} (I : List α → Sl → Prop) (h0 : I [] δ)
    (he : ∀ pre x post δ, xs = pre ++ x :: post → I pre δ → ∃ δ', ((tg (.imm (inj x)) δ).bind body = .nx δ' ∨ (tg (.imm (inj x)) δ).bind body = .ct δ') ∧ I (pre ++ [x]) δ') :
    ∃ δ', I xs δ' ∧ forL tg body (xs.map inj) δ = .nx δ' := by
  have key : ∀ (post pre : List α) (δ : Sl), xs = pre ++ post → I pre δ → ∃ δ', I xs δ' ∧ forL tg body (post.map inj) δ = .nx δ' := by
    intro post
    induction post with
    | nil =>
      intro pre δ e hI
      have : xs = pre := by simpa using e
      subst this
      exact ⟨δ, hI, rfl⟩
    | cons y ys ih =>
      intro pre δ e hI
      obtain ⟨δ', e1, hI'⟩ := he pre y ys δ e hI
      obtain ⟨δ2, i2, e2⟩ := ih (pre ++ [y]) δ' (by simp [e]) hI'
      refine ⟨δ2, i2, ?_⟩
      simp only [List.map_cons, forL]
      rcases e1 with e1 | e1 <;> rw [e1] <;> exact e2
  exact key xs [] δ rfl h0
def enumL (i : Nat) : List Int → List (Nat × Int)
  | [] => []
  | x :: t => (i, x) :: enumL (i + 1) t
theorem enumD_map : ∀ (t : List Int) (i : Nat), enumD i (iL t) = (enumL i t).map fun p => .tup [.int (p.1 : Int), .int p.2]
  | [], i => rfl
  | x :: t, i => by
    have := enumD_map t (i + 1)
    simp only [iL, List.map_cons, enumD, enumL] at this ⊢
    rw [this]
theorem enumL_get : ∀ (t : List Int) (i j : Nat), (enumL i t)[j]? = (t[j]?).map fun x => (i + j, x)
  | [], i, j => by simp [enumL]
  | x :: t, i, 0 => by simp [enumL]
  | x :: t, i, j + 1 => by
    simp only [enumL, List.getElem?_cons_succ, enumL_get t (i + 1) j]
    congr 1; funext z; congr 1; omega
theorem enumL_len : ∀ (t : List Int) (i : Nat), (enumL i t).length = t.length
  | [], i => rfl
  | x :: t, i => by simp [enumL, enumL_len t (i + 1)]
theorem pre_get {α : Type} {xs pre post : List α} {x : α} (h : xs = pre ++ x :: post) : xs[pre.length]? = some x := by
  subst h; simp
theorem nats_eq (k : Nat) : nats 0 k = (List.range k).map fun i : Nat => (i : Int) := by simp [nats, List.range_eq_range']
theorem itRg2_ok {f g : FD} {δ δ1 : Sl} {i k : Nat} (hi : i ≤ 16777216) (h : k ≤ 16777216) (e1 : f δ = .ok (.int (i : Int)) δ) (e2 : g δ = .ok (.int (k : Int)) δ1) : itRg2 f g δ = .ok (iL (nats i (k - i))) δ1 := by
  unfold itRg2
  rw [e1, Res.bind_ok, e2, Res.bind_ok]
  show (if gd (-4611686018427387904 ≤ (i : Int) ∧ (i : Int) < 4611686018427387904 ∧ -4611686018427387904 ≤ (k : Int) ∧ (k : Int) < 4611686018427387904) = true then Res.ok (rgD (i : Int) (k : Int)) δ1 else .bad) = _
  rw [if_pos (rg2_nat hi h)]
  congr 1
  simp only [rgD, iL, nats, List.map_map]
  rw [show ((k : Int) - (i : Int)).toNat = k - i by omega, List.range'_eq_map_range, List.map_map]
  apply List.map_congr_left
  intro a _
  simp
end
end TS

namespace TS
theorem nodup_iff {α : Type} {l : List α} : l.Nodup ↔ ∀ i j, i < j → j < l.length → l[i]? ≠ l[j]? := by
  unfold List.Nodup
  rw [List.pairwise_iff_getElem]
  constructor
  · intro h i j hij hj e
    rw [List.getElem?_eq_getElem hj, List.getElem?_eq_getElem (by omega)] at e
    exact h i j (by omega) hj hij (Option.some.inj e)
  · intro h i j hi hj hij e
    exact h i j hij hj (by rw [List.getElem?_eq_getElem hj, List.getElem?_eq_getElem hi, e])
def mv (t : List Int) (x : Int) : Int := x + act t x
structure Good (t : List Int) : Prop where
  pos : 0 < t.length
  len : t.length ≤ 2520
  inj : ∀ x y, mv t x = mv t y → x = y
def rems (n : Int) : Nat → List Int → List Int
  | _, [] => []
  | i, x :: t => ((i : Int) + x) % n :: rems n (i + 1) t
theorem rems_len (n : Int) : ∀ (t : List Int) (i : Nat), (rems n i t).length = t.length
  | [], i => rfl
  | x :: t, i => by simp [rems, rems_len n t (i + 1)]
theorem rems_get (n : Int) : ∀ (t : List Int) (i j : Nat), (rems n i t)[j]? = (t[j]?).map fun x => (((i + j : Nat) : Int) + x) % n
  | [], i, j => by simp [rems]
  | x :: t, i, 0 => by simp [rems]
  | x :: t, i, j + 1 => by
    simp only [rems, List.getElem?_cons_succ, rems_get n t (i + 1) j]
    congr 1; funext z; congr 2; omega
theorem act_get {t : List Int} {i : Nat} {x : Int} (h : t[i]? = some x) : act t i = x := by
  obtain ⟨hl, e⟩ := List.getElem?_eq_some_iff.mp h
  rw [act_nat hl, List.getD_eq_getElem?_getD, h]; rfl
theorem act_get' {t : List Int} {i : Nat} (h : i < t.length) : t[i]? = some (act t i) := by
  rw [act_nat h, List.getD_eq_getElem?_getD, List.getElem?_eq_getElem h]; rfl
theorem mv_perk (t : List Int) (x k : Int) : mv t (x + k * t.length) = mv t x + k * t.length := by
  unfold mv; rw [(act_per t).mul k x]; omega
theorem Good.rems {t : List Int} (h : Good t) : (rems t.length 0 t).Nodup := by
  rw [nodup_iff]
  intro i j hij hj e
  rw [rems_len] at hj
  have hi : i < t.length := by omega
  rw [rems_get, rems_get, act_get' hi, act_get' hj] at e
  simp only [Option.map_some, Option.some.injEq, Nat.zero_add] at e
  have h0 : (t.length : Int) ≠ 0 := by omega
  -- mv i = mv j + k n
  have d : ∃ k : Int, mv t i = mv t j + k * t.length := by
    refine ⟨((i : Int) + act t i) / t.length - ((j : Int) + act t j) / t.length, ?_⟩
    have e1 := Int.emod_add_mul_ediv ((i : Int) + act t i) t.length
    have e2 := Int.emod_add_mul_ediv ((j : Int) + act t j) t.length
    unfold mv
    rw [Int.sub_mul, Int.mul_comm _ (t.length : Int), Int.mul_comm _ (t.length : Int)]
    omega
  obtain ⟨k, hk⟩ := d
  rw [← mv_perk] at hk
  have := h.inj _ _ hk
  -- i = j + k n with both in [0, n)
  have hk0 : k = 0 := by
    rcases Int.lt_trichotomy k 0 with hk | hk | hk
    · have : k * (t.length : Int) ≤ -1 * t.length := Int.mul_le_mul_of_nonneg_right (by omega) (by omega)
      omega
    · exact hk
    · have : 1 * (t.length : Int) ≤ k * t.length := Int.mul_le_mul_of_nonneg_right (by omega) (by omega)
      omega
  subst hk0
  omega
theorem good_of_rems {t : List Int} (h0 : 0 < t.length) (h1 : t.length ≤ 2520) (hn : (TS.rems t.length 0 t).Nodup) : Good t := by
  refine ⟨h0, h1, fun x y e => ?_⟩
  have key : ∀ z : Int, ∃ i : Nat, i < t.length ∧ z % (t.length : Int) = i ∧ act t z = act t i := fun z => by
    have b1 := Int.emod_nonneg z (show (t.length : Int) ≠ 0 by omega)
    have b2 := Int.emod_lt_of_pos z (show 0 < (t.length : Int) by omega)
    obtain ⟨i, ei⟩ := Int.eq_ofNat_of_zero_le b1
    exact ⟨i, by omega, ei, by rw [← act_mod t z, ei]⟩
  obtain ⟨i, hi, ei, ai⟩ := key x
  obtain ⟨j, hj, ej, aj⟩ := key y
  have q : i = j := by
    rcases Nat.lt_trichotomy i j with h | h | h
    · exfalso
      refine nodup_iff.mp hn i j h (by rw [rems_len]; exact hj) ?_
      rw [rems_get, rems_get, act_get' hi, act_get' hj]
      simp only [Option.map_some, Option.some.injEq, Nat.zero_add]
      rw [← ai, ← aj, ← ei, ← ej, Int.emod_add_emod, Int.emod_add_emod]
      unfold mv at e
      rw [e]
    · exact h
    · exfalso
      refine nodup_iff.mp hn j i h (by rw [rems_len]; exact hi) ?_
      rw [rems_get, rems_get, act_get' hi, act_get' hj]
      simp only [Option.map_some, Option.some.injEq, Nat.zero_add]
      rw [← ai, ← aj, ← ei, ← ej, Int.emod_add_emod, Int.emod_add_emod]
      unfold mv at e
      rw [e]
  subst q
  unfold mv at e
  rw [ai, aj] at e
  omega
theorem Good.least {t : List Int} (h : Good t) : Good (least t) := by
  refine ⟨least_pos h.pos, Nat.le_trans (least_le h.pos) h.len, fun x y e => h.inj x y ?_⟩
  unfold mv at e ⊢
  rw [least_act h.pos] at e
  exact e
theorem mv_least {t : List Int} (h : Good t) : mv (least t) = mv t := by
  funext x; unfold mv; rw [least_act h.pos]
def tabOf (n : Nat) (f : Int → Int) : List Int := (List.range n).map fun i : Nat => f (i : Int)
theorem tabOf_len (n : Nat) (f : Int → Int) : (tabOf n f).length = n := by simp [tabOf]
theorem tabOf_self (t : List Int) : tabOf t.length (act t) = t := by
  apply getD_ext (tabOf_len _ _)
  intro i hi
  have : (tabOf t.length (act t))[i]? = some (act t i) := by simp [tabOf, hi]
  rw [List.getD_eq_getElem?_getD, this, Option.getD_some, act_nat hi]
theorem leastP_dvd_len {t : List Int} (h : Good t) : (least t).length ∣ t.length := by rw [least_length h.pos]; exact (leastP_dvd h.pos).1
end TS

namespace TS
open PySem L2
noncomputable section
theorem strOk_of (s : String) : PyData.strOk (Str.ofString s) = true := by
  unfold PyData.strOk
  rw [Str.ofString_eq_toList]
  rw [Array.all_eq_true']
  intro n hn
  simp at hn
  obtain ⟨c, _, rfl⟩ := hn
  have := c.valid
  simp only [decide_eq_true_eq]
  show c.val.toNat < 1114112
  rcases this with h | h
  · have : c.val.toNat < 55296 := h
    omega
  · exact h.2
theorem shaped_str {x : Str} (h : PyData.strOk x = true) : SeqAt.shaped (PyData.str x) = true := by unfold SeqAt.shaped; simp [PyData.canLay0, PyData.depth, h]
theorem gEq_str {x y : Str} (h : PyData.strOk x = true) (h' : PyData.strOk y = true) : gEq (.str x) (.str y) = some (.imm (.bl (decide (x = y)))) := by
  have : PyData.eqv (.str x) (.str y) = decide (x = y) := by
    by_cases e : x = y
    · subst e; simp [PyData.eqv]
    · simp [PyData.eqv, e]
  simp [gEq, toP, shaped_str h, shaped_str h', this]
theorem cells_ok (c : Int) (n : Nat) (hc : 0 ≤ c ∧ c < 100) : ∃ k : Nat, k < 100 ∧ (if 1 < (if (n : Int) < c then (n : Int) else c) then (if (n : Int) < c then (n : Int) else c) else 1) = (k : Int) := by
  by_cases h5 : (n : Int) < c
  · rw [if_pos h5]
    by_cases h1 : (1 : Int) < n
    · rw [if_pos h1]; exact ⟨n, by omega, rfl⟩
    · rw [if_neg h1]; exact ⟨1, by omega, rfl⟩
  · rw [if_neg h5]
    by_cases h1 : (1 : Int) < c
    · rw [if_pos h1]; exact ⟨c.toNat, by omega, by omega⟩
    · rw [if_neg h1]; exact ⟨1, by omega, rfl⟩
theorem blsOf_true : ∀ l : List Int, blsOf (l.map fun _ => D.bl true) = some (l.map fun _ => true)
  | [] => rfl
  | x :: l => by simp only [List.map_cons, blsOf, blsOf_true l, Option.map_some]
theorem gAll_true (l : List Int) : gAll [.lst (l.map fun _ => D.bl true)] = some (.imm (.bl true)) := by
  simp only [gAll, blsOf_true]
  simp
abbrev lawG (c : Int) (F : FD) : FS := sRet (fCal gAll (aOne (frz (fLc (stName 1) [1] (itRg1 (frz (fCal gMax (aCons (kD (.int 1)) (aCons (frz (fCal gMin (aCons (kD (.int c)) (aCons (frz (fCal gLen (aOne (vP 0)))) aNil)))) aNil))))) tTrue F))))
theorem law_of {c : Int} (hc : 0 ≤ c ∧ c < 100) {F : FD} (ns : List Int) (hF : ∀ a : Nat, a < 100 → F [some (.imm (.scr (ns.map D.int))), some (.imm (.int (a : Int)))] = .ok (.bl true) [some (.imm (.scr (ns.map D.int))), some (.imm (.int (a : Int)))]) : mir 2 1 (lawG c F) none [.scr (ns.map D.int)] = .ok (.imm (.bl true)) none := by
  obtain ⟨k, hk, ek⟩ := cells_ok c ns.length hc
  have ga := gAll_true (nats 0 k)
  have q : fLc (stName 1) [1] (itRg1 (frz (fCal gMax (aCons (kD (.int 1)) (aCons (frz (fCal gMin (aCons (kD (.int c)) (aCons (frz (fCal gLen (aOne (vP 0)))) aNil)))) aNil))))) tTrue F [some (.imm (.scr (ns.map D.int))), none] = .ok (.own (.l ((nats 0 k).map fun _ => D.bl true))) [some (.imm (.scr (ns.map D.int))), none] := by
    refine lc_intsD (xs := nats 0 k) (fun _ => .bl true) (itRg1_ok (by omega) (by simp [ek])) rfl (by rw [nats_len]; omega) (fun x hx => ?_)
    simp [nats] at hx
    obtain ⟨a, ha, rfl⟩ := hx
    exact hF a (by omega)
  generalize ((nats 0 k).map fun _ => D.bl true) = L at *
  have s4 : ∀ G : FS, mir 2 1 G none [.scr (ns.map D.int)] = outR none (G [some (.imm (.scr (ns.map D.int))), none]) := fun G => by simp [mir, ini, ioS, ioN]
  rw [s4]
  unfold lawG
  rw [ap_sRet, ap_fCal, ap_aOne, ap_frz, q]
  simp [ga, outR, ioOut]
end
end TS

namespace TS
def srcL (n : Nat) : Nat → List Int → List Int → List Int
  | _, [], acc => acc
  | i, x :: t, acc => srcL n (i + 1) t (acc.set (((i : Int) + x) % n).toNat i)
def srcs (t : List Int) : List Int := srcL t.length 0 t (List.replicate t.length 0)
theorem srcL_len (n : Nat) : ∀ (t : List Int) (i : Nat) (acc : List Int), (srcL n i t acc).length = acc.length
  | [], i, acc => rfl
  | x :: t, i, acc => by rw [srcL, srcL_len n t]; simp
theorem srcs_len (t : List Int) : (srcs t).length = t.length := by unfold srcs; rw [srcL_len]; simp
theorem srcL_stay (n : Nat) (hn : 0 < n) : ∀ (t : List Int) (i : Nat) (acc : List Int) (j : Nat), (∀ r ∈ rems n i t, r ≠ j) → (srcL n i t acc)[j]? = acc[j]?
  | [], i, acc, j, _ => rfl
  | x :: t, i, acc, j, h => by
    rw [srcL, srcL_stay n hn t (i + 1) _ j (fun r hr => h r (by simp [rems, hr]))]
    have h0 := h (((i : Int) + x) % n) (by simp [rems])
    have b := Int.emod_nonneg ((i : Int) + x) (show (n : Int) ≠ 0 by omega)
    rw [List.getElem?_set_ne (by omega)]
theorem srcL_at (n : Nat) (hn : 0 < n) : ∀ (t : List Int) (i : Nat) (acc : List Int) (k : Nat) (x : Int), acc.length = n → (rems n i t).Nodup → t[k]? = some x → (srcL n i t acc)[((((i + k : Nat) : Int) + x) % n).toNat]? = some ((i + k : Nat) : Int)
  | [], i, acc, k, x, _, _, h => by simp at h
  | y :: t, i, acc, 0, x, hl, hnd, h => by
    simp at h
    subst h
    have b0 := Int.emod_nonneg ((i : Int) + y) (show (n : Int) ≠ 0 by omega)
    have b1 := Int.emod_lt_of_pos ((i : Int) + y) (show 0 < (n : Int) by omega)
    rw [srcL]
    simp only [Nat.add_zero]
    have hnd' := List.nodup_cons.mp (show (((i : Int) + y) % n :: rems n (i + 1) t).Nodup from hnd)
    rw [srcL_stay n hn t (i + 1) _ _ (fun r hr e => hnd'.1 (by
      have : r = ((i : Int) + y) % n := by omega
      rw [← this]; exact hr))]
    rw [List.getElem?_set_self (by omega)]
  | y :: t, i, acc, k + 1, x, hl, hnd, h => by
    have hnd' := List.nodup_cons.mp (show (((i : Int) + y) % n :: rems n (i + 1) t).Nodup from hnd)
    have e := srcL_at n hn t (i + 1) (acc.set (((i : Int) + y) % n).toNat i) k x (by simp [hl]) hnd'.2 (by simpa using h)
    rw [srcL]
    have z : i + 1 + k = i + (k + 1) := by omega
    rw [z] at e
    exact e
theorem srcs_at {t : List Int} (h : Good t) {k : Nat} (hk : k < t.length) : (srcs t)[((((k : Nat) : Int) + act t k) % t.length).toNat]? = some (k : Int) := by
  have e := srcL_at t.length h.pos t 0 (List.replicate t.length 0) k (act t k) (by simp) h.rems (act_get' hk)
  rw [Nat.zero_add] at e
  exact e
theorem nd_le : ∀ (n : Nat) (l : List Nat), l.Nodup → (∀ x ∈ l, x < n) → l.length ≤ n
  | 0, l, _, h => by
    cases l with
    | nil => simp
    | cons a l => exact absurd (h a (by simp)) (by omega)
  | n + 1, l, hn, h => by
    by_cases hm : n ∈ l
    · have e := nd_le n (l.erase n) (hn.erase n) fun x hx => by
        have h1 := h x (List.mem_of_mem_erase hx)
        have h2 : x ≠ n := fun z => by
          subst z
          exact absurd hx (List.Nodup.not_mem_erase hn)
        omega
      rw [List.length_erase_of_mem hm] at e
      omega
    · have e := nd_le n l hn fun x hx => by
        have h1 := h x hx
        have h2 : x ≠ n := fun z => hm (z ▸ hx)
        omega
      omega
theorem nd_all (n : Nat) (l : List Nat) (hn : l.Nodup) (h : ∀ x ∈ l, x < n) (hl : l.length = n) (j : Nat) (hj : j < n) : j ∈ l := by
  refine Classical.byContradiction fun hm => ?_
  have := nd_le n (j :: l) (List.nodup_cons.mpr ⟨hm, hn⟩) (fun x hx => by
    rcases List.mem_cons.mp hx with rfl | hx
    · exact hj
    · exact h x hx)
  simp at this
  omega
theorem rems_bd {n : Nat} (hn : 0 < n) (t : List Int) (i : Nat) : ∀ r ∈ rems n i t, 0 ≤ r ∧ r < n := by
  intro r hr
  obtain ⟨j, hj, e⟩ := List.getElem_of_mem hr
  have := rems_get n t i j
  rw [List.getElem?_eq_getElem hj, e] at this
  obtain ⟨x, _, q⟩ := Option.map_eq_some_iff.mp this.symm
  rw [← q]
  exact ⟨Int.emod_nonneg _ (by omega), Int.emod_lt_of_pos _ (by omega)⟩
theorem src_ex {t : List Int} (h : Good t) {j : Nat} (hj : j < t.length) : ∃ k : Nat, k < t.length ∧ ((k : Int) + act t k) % t.length = j ∧ (srcs t)[j]? = some (k : Int) := by
  have hnd := h.rems
  have hb := rems_bd h.pos t 0
  have hm : j ∈ (rems t.length 0 t).map Int.toNat := by
    refine nd_all t.length _ ?_ ?_ ?_ j hj
    · unfold List.Nodup
      rw [List.pairwise_map]
      refine List.Pairwise.imp_of_mem ?_ hnd
      intro a b ha hb' hab e
      have := hb a ha
      have := hb b hb'
      omega
    · intro x hx
      obtain ⟨r, hr, rfl⟩ := List.mem_map.mp hx
      have := hb r hr
      omega
    · simp [rems_len]
  obtain ⟨r, hr, e⟩ := List.mem_map.mp hm
  obtain ⟨k, hk, ek⟩ := List.getElem_of_mem hr
  rw [rems_len] at hk
  have q := rems_get t.length t 0 k
  rw [List.getElem?_eq_getElem (by rw [rems_len]; exact hk), ek, act_get' hk, Option.map_some, Nat.zero_add] at q
  have q := Option.some.inj q
  have rb := hb r hr
  refine ⟨k, hk, by omega, ?_⟩
  have s := srcs_at h hk
  rw [← q, e] at s
  exact s
def inv (t : List Int) (x : Int) : Int := x - act t (act (srcs t) x)
theorem mv_inv {t : List Int} (h : Good t) (x : Int) : mv t (inv t x) = x := by
  have b0 := Int.emod_nonneg x (show (t.length : Int) ≠ 0 by have := h.pos; omega)
  have b1 := Int.emod_lt_of_pos x (show 0 < (t.length : Int) by have := h.pos; omega)
  obtain ⟨j, ej⟩ := Int.eq_ofNat_of_zero_le b0
  obtain ⟨k, hk, e1, e2⟩ := src_ex h (j := j) (by omega)
  have e3 : act (srcs t) x = k := by
    rw [← act_mod, srcs_len, ej]
    exact act_get e2
  unfold inv
  rw [e3]
  -- x = k + act t k + q n
  have d : ∃ q : Int, x - act t k = k + q * t.length := by
    have h1 := Int.emod_add_mul_ediv x t.length
    have h2 := Int.emod_add_mul_ediv ((k : Int) + act t k) t.length
    refine ⟨x / t.length - ((k : Int) + act t k) / t.length, ?_⟩
    rw [Int.sub_mul, Int.mul_comm _ (t.length : Int), Int.mul_comm _ (t.length : Int)]
    omega
  obtain ⟨q, hq⟩ := d
  rw [hq, mv_perk]
  unfold mv
  omega
end TS

namespace TS
def itr (f : Int → Int) : Nat → Int → Int
  | 0, x => x
  | k + 1, x => f (itr f k x)
def pwr (t : List Int) (n : Int) (x : Int) : Int := if 0 ≤ n then itr (mv t) n.toNat x else itr (inv t) (-n).toNat x
theorem pwr_zero (t : List Int) (x : Int) : pwr t 0 x = x := rfl
theorem pwr_succ {t : List Int} (h : Good t) (n : Int) (x : Int) : pwr t (n + 1) x = mv t (pwr t n x) := by
  unfold pwr
  by_cases h0 : 0 ≤ n
  · rw [if_pos h0, if_pos (by omega), show (n + 1).toNat = n.toNat + 1 by omega]; rfl
  · rw [if_neg h0]
    by_cases h1 : n = -1
    · subst h1
      rw [if_pos (by omega)]
      show x = mv t (inv t x)
      rw [mv_inv h]
    · rw [if_neg (by omega), show (-n).toNat = (-(n + 1)).toNat + 1 by omega]
      show _ = mv t (inv t _)
      rw [mv_inv h]
theorem pwr_uniq {t : List Int} (h : Good t) {x : Int} {g : Int → Int} (h0 : g 0 = x) (h1 : ∀ n, g (n + 1) = mv t (g n)) (n : Int) : g n = pwr t n x := by
  have up : ∀ k : Nat, g (k : Int) = pwr t k x := fun k => by
    induction k with
    | zero => rw [Int.natCast_zero, h0, pwr_zero]
    | succ k ih => rw [Int.natCast_succ, h1, ih, pwr_succ h]
  have dn : ∀ k : Nat, g (-(k : Int)) = pwr t (-(k : Int)) x := fun k => by
    induction k with
    | zero => simpa using up 0
    | succ k ih =>
      refine h.inj _ _ ?_
      rw [← h1, ← pwr_succ h]
      have : -((k + 1 : Nat) : Int) + 1 = -(k : Int) := by omega
      rw [this]; exact ih
  rcases Int.le_total 0 n with q | q
  · obtain ⟨k, rfl⟩ := Int.eq_ofNat_of_zero_le q
    exact up k
  · obtain ⟨k, e⟩ := Int.eq_ofNat_of_zero_le (show 0 ≤ -n by omega)
    have : n = -(k : Int) := by omega
    rw [this]; exact dn k
theorem pwr_add {t : List Int} (h : Good t) (m n x : Int) : pwr t (m + n) x = pwr t n (pwr t m x) :=
  pwr_uniq h (g := fun n => pwr t (m + n) x) (by show pwr t (m + 0) x = _; rw [Int.add_zero]) (fun n => by show pwr t (m + (n + 1)) x = _; rw [← Int.add_assoc, pwr_succ h]) n
theorem pwr_inj {t : List Int} (h : Good t) (n x y : Int) (e : pwr t n x = pwr t n y) : x = y := by
  have q : ∀ z, pwr t (-n) (pwr t n z) = z := fun z => by rw [← pwr_add h, Int.add_right_neg, pwr_zero]
  rw [← q x, e, q]
theorem pwr_perk {t : List Int} (h : Good t) (n x k : Int) : pwr t n (x + k * t.length) = pwr t n x + k * t.length :=
  (pwr_uniq h (g := fun n => pwr t n x + k * t.length) (by show pwr t 0 x + _ = _; rw [pwr_zero]) (fun n => by show pwr t (n + 1) x + _ = mv t (pwr t n x + _); rw [mv_perk, pwr_succ h]) n).symm
def nx (t : List Int) (j : Nat) : Nat := (((j : Int) + act t j) % t.length).toNat
end TS

namespace TS
open PySem L2
noncomputable section
def sm (f : Int → Int) : Nat → Int
  | 0 => 0
  | n + 1 => sm f n + f (n : Int)
theorem tabOf_sum (f : Int → Int) : ∀ n : Nat, (tabOf n f).sum = sm f n
  | 0 => rfl
  | n + 1 => by
    have e : tabOf (n + 1) f = tabOf n f ++ [f n] := by simp [tabOf, List.range_succ]
    rw [e, List.sum_append, tabOf_sum f n]
    simp [sm]
theorem sum_act (t : List Int) : t.sum = sm (act t) t.length := by
  conv => lhs; rw [← tabOf_self t]
  exact tabOf_sum _ _
theorem sm_congr {f g : Int → Int} : ∀ {n : Nat}, (∀ i : Nat, i < n → f i = g i) → sm f n = sm g n
  | 0, _ => rfl
  | n + 1, h => by
    simp only [sm]
    rw [sm_congr fun i hi => h i (by omega), h n (by omega)]
theorem sm_plus (f g : Int → Int) : ∀ n : Nat, sm (fun i => f i + g i) n = sm f n + sm g n
  | 0 => rfl
  | n + 1 => by simp only [sm]; rw [sm_plus f g n]; omega
theorem sm_minus (f g : Int → Int) : ∀ n : Nat, sm (fun i => f i - g i) n = sm f n - sm g n
  | 0 => rfl
  | n + 1 => by simp only [sm]; rw [sm_minus f g n]; omega
theorem sm_times (k : Int) (f : Int → Int) : ∀ n : Nat, sm (fun i => k * f i) n = k * sm f n
  | 0 => by simp [sm]
  | n + 1 => by simp only [sm]; rw [sm_times k f n, Int.mul_add]
theorem sm_const (k : Int) : ∀ n : Nat, sm (fun _ => k) n = n * k
  | 0 => by simp [sm]
  | n + 1 => by simp only [sm]; rw [sm_const k n, Int.natCast_succ, Int.add_mul, Int.one_mul]
theorem sm_add (f : Int → Int) (a : Nat) : ∀ b : Nat, sm f (a + b) = sm f a + sm (fun i => f (a + i)) b
  | 0 => by simp [sm]
  | b + 1 => by
    rw [← Nat.add_assoc]
    simp only [sm]
    rw [sm_add f a b, Int.natCast_add]
    omega
theorem sm_per {f : Int → Int} {p : Nat} (h : PerF f p) : ∀ k : Nat, sm f (k * p) = k * sm f p
  | 0 => by simp [sm]
  | k + 1 => by
    rw [Nat.succ_mul, sm_add, sm_per h k]
    have e : sm (fun i => f (((k * p : Nat) : Int) + i)) p = sm f p := sm_congr fun i hi => by
      rw [Int.natCast_mul, Int.add_comm]
      exact (h.mulN k) i
    rw [e, Int.natCast_succ, Int.add_mul, Int.one_mul]
theorem nd_len : ∀ (n : Nat) (l : List Int), l.Nodup → (∀ x ∈ l, 0 ≤ x ∧ x < n) → l.length ≤ n
  | 0, [], _, _ => Nat.le_refl _
  | 0, x :: l, _, h => by have := h x (by simp); omega
  | n + 1, l, hn, h => by
    have e : (l.erase (n : Int)).length ≤ n := nd_len n _ (hn.erase _) fun x hx => by
      have h1 := h x (List.mem_of_mem_erase hx)
      have h2 : x ≠ n := fun q => by subst q; exact (List.Nodup.not_mem_erase hn) hx
      omega
    have : l.length ≤ (l.erase (n : Int)).length + 1 := by
      rw [List.length_erase]; split <;> omega
    omega
theorem nd_perm : ∀ (n : Nat) (l : List Int), l.Nodup → (∀ x ∈ l, 0 ≤ x ∧ x < n) → l.length = n → l.Perm (nats 0 n)
  | 0, l, _, _, hl => by
    have : l = [] := List.length_eq_zero_iff.mp hl
    subst this
    exact List.Perm.refl _
  | n + 1, l, hn, h, hl => by
    have hm : (n : Int) ∈ l := by
      by_cases hm : (n : Int) ∈ l
      · exact hm
      · have := nd_len n l hn fun x hx => by
          have h1 := h x hx
          have h2 : x ≠ n := fun q => by subst q; exact hm hx
          omega
        omega
    have e := nd_perm n (l.erase (n : Int)) (hn.erase _) (fun x hx => by
      have h1 := h x (List.mem_of_mem_erase hx)
      have h2 : x ≠ n := fun q => by subst q; exact (List.Nodup.not_mem_erase hn) hx
      omega) (by rw [List.length_erase_of_mem hm]; omega)
    have e2 : nats 0 (n + 1) = nats 0 n ++ [(n : Int)] := by simp [nats, List.range'_concat]
    rw [e2]
    exact (List.perm_cons_erase hm).trans ((e.cons _).trans (List.perm_append_comm (l₁ := [(n : Int)])))
theorem perm_sum {a b : List Int} (h : a.Perm b) : a.sum = b.sum := by
  induction h with
  | nil => rfl
  | cons x _ ih => simp [ih]
  | swap x y l => simp; omega
  | trans _ _ h1 h2 => exact h1.trans h2
theorem tabOf_nodup {n : Nat} {g : Int → Int} (h : ∀ i j : Nat, i < n → j < n → g i = g j → i = j) : (tabOf n g).Nodup := by
  rw [nodup_iff]
  intro i j hij hj e
  rw [tabOf_len] at hj
  simp only [tabOf, List.getElem?_map, List.getElem?_range hj, List.getElem?_range (show i < n by omega), Option.map_some] at e
  have := h i j (by omega) hj (Option.some.inj e)
  omega
theorem tabOf_perm {n : Nat} {g : Int → Int} (h : ∀ i j : Nat, i < n → j < n → g i = g j → i = j) (hb : ∀ i : Nat, i < n → 0 ≤ g i ∧ g i < n) : (tabOf n g).Perm (nats 0 n) :=
  nd_perm n _ (tabOf_nodup h) (fun x hx => by
    obtain ⟨i, hi, rfl⟩ := List.mem_map.mp hx
    exact hb i (by simpa using hi)) (tabOf_len _ _)
theorem nats_tab (n : Nat) : nats 0 n = tabOf n id := by simp [nats, tabOf, List.range_eq_range']
theorem sm_comp (f : Int → Int) {n : Nat} {g : Int → Int} (h : ∀ i j : Nat, i < n → j < n → g i = g j → i = j) (hb : ∀ i : Nat, i < n → 0 ≤ g i ∧ g i < n) : sm (fun i => f (g i)) n = sm f n := by
  have p := (tabOf_perm h hb).map f
  have q := perm_sum p
  rw [nats_tab] at q
  simp only [tabOf, List.map_map] at q
  have e1 := tabOf_sum (fun i => f (g i)) n
  have e2 := tabOf_sum f n
  simp only [tabOf] at e1 e2
  rw [← e1, ← e2]
  exact q
theorem rem_inj {t : List Int} (h : Good t) {n : Nat} (hd : t.length ∣ n) (h0 : 0 < n) (c : Int) : ∀ i j : Nat, i < n → j < n → (mv t i - c) % n = (mv t j - c) % n → i = j := by
  intro i j hi hj e
  have e2 : (n : Int) ∣ (mv t i - mv t j) := by
    have := Int.dvd_of_emod_eq_zero (Int.emod_eq_emod_iff_emod_sub_eq_zero.mp e)
    rwa [show mv t i - c - (mv t j - c) = mv t i - mv t j by omega] at this
  obtain ⟨k, hk⟩ := e2
  obtain ⟨m, rfl⟩ := hd
  have e3 : mv t i = mv t ((j : Int) + (m * k) * t.length) := by
    rw [mv_perk]
    have : ((t.length * m : Nat) : Int) * k = m * k * t.length := by rw [Int.natCast_mul, Int.mul_comm (t.length : Int), Int.mul_right_comm]
    omega
  have e4 := h.inj _ _ e3
  have e5 : ((m : Int) * k) * t.length = ((t.length * m : Nat) : Int) * k := by rw [Int.natCast_mul, Int.mul_comm (t.length : Int), Int.mul_right_comm]
  rw [e5] at e4
  have hk0 : k = 0 := by
    rcases Int.lt_trichotomy k 0 with hk | hk | hk
    · have : ((t.length * m : Nat) : Int) * k ≤ ((t.length * m : Nat) : Int) * (-1) := Int.mul_le_mul_of_nonneg_left (by omega) (by omega)
      omega
    · exact hk
    · have : ((t.length * m : Nat) : Int) * 1 ≤ ((t.length * m : Nat) : Int) * k := Int.mul_le_mul_of_nonneg_left (by omega) (by omega)
      omega
  subst hk0
  omega
theorem rem_sum {t : List Int} (h : Good t) {n : Nat} (hd : t.length ∣ n) (h0 : 0 < n) (c : Int) (f : Int → Int) (hf : PerF f n) : sm (fun i => f (mv t i - c)) n = sm f n := by
  have e := sm_comp f (g := fun i => (mv t i - c) % n) (rem_inj h hd h0 c) fun i _ => ⟨Int.emod_nonneg _ (by omega), Int.emod_lt_of_pos _ (by omega)⟩
  rw [← e]
  exact sm_congr fun i _ => (per_mod hf _).symm
theorem good_id : Good [0] := by
  refine ⟨by decide, by decide, fun x y e => ?_⟩
  have : ∀ x, act [0] x = 0 := fun x => by rw [← act_mod]; simp [act]
  simpa [mv, this] using e
theorem mv_id (x : Int) : mv [0] x = x := by
  have : act [0] x = 0 := by rw [← act_mod]; simp [act]
  simp [mv, this]
def cnt (t : List Int) (c : Int) : Int := sm (fun i => (i + act t i - c) / t.length - (i - c) / t.length) t.length
theorem cnt_sum {t : List Int} (h : Good t) (c : Int) : t.length * cnt t c = t.sum := by
  have hp := h.pos
  unfold cnt
  rw [← sm_times, sum_act]
  have r1 := rem_sum h (Nat.dvd_refl _) hp c (fun z => z % t.length) (fun z => by simp)
  have r2 := rem_sum good_id (n := t.length) ⟨t.length, by simp⟩ hp c (fun z => z % t.length) (fun z => by simp)
  simp only [mv_id] at r2
  have e : sm (fun i => (t.length : Int) * ((i + act t i - c) / t.length - (i - c) / t.length)) t.length = sm (fun i => act t i - ((mv t i - c) % t.length - (i - c) % t.length)) t.length := sm_congr fun i _ => by
    have a1 := Int.mul_ediv_add_emod (i + act t i - c) t.length
    have a2 := Int.mul_ediv_add_emod ((i : Int) - c) t.length
    unfold mv
    rw [Int.mul_sub]
    omega
  rw [e, sm_minus, sm_minus, r1, r2]
  omega
def flw (t : List Int) : Int := t.sum / t.length
theorem cnt_flw {t : List Int} (h : Good t) (c : Int) : cnt t c = flw t := by
  unfold flw
  rw [← cnt_sum h c, Int.mul_ediv_cancel_left _ (by have := h.pos; omega)]
theorem flw_sum {t : List Int} (h : Good t) : t.sum = t.length * flw t := by rw [← cnt_flw h 0, cnt_sum h]
theorem flw_of {t : List Int} (h : 0 < t.length) {k : Int} (e : t.sum = t.length * k) : flw t = k := by
  unfold flw
  rw [e, Int.mul_ediv_cancel_left _ (by omega)]
theorem flw_per {t : List Int} (h : Good t) {n : Nat} (h0 : 0 < n) (hp : PerF (act t) n) : sm (act t) n = n * flw t := by
  have a1 := sm_per (act_per t) n
  have a2 := sm_per hp t.length
  rw [Nat.mul_comm, a2, ← sum_act, flw_sum h] at a1
  have : (t.length : Int) * sm (act t) n = t.length * (n * flw t) := by rw [a1, ← Int.mul_assoc, ← Int.mul_assoc, Int.mul_comm (n : Int)]
  exact Int.eq_of_mul_eq_mul_left (by have := h.pos; omega) this
theorem flw_act {s t : List Int} (hs : Good s) (ht : Good t) (e : act s = act t) : flw s = flw t := by
  have := flw_per ht hs.pos (by rw [← e]; exact act_per s)
  rw [← e, ← sum_act] at this
  exact flw_of hs.pos this
theorem flw_least {t : List Int} (h : Good t) : flw (least t) = flw t := flw_act h.least h (least_act h.pos)
theorem lc_gen {α : Type} {inj : α → D} {setT : D → Sl → Option Sl} {vs : List Nat} {fi : FA} {ft : FT} {fe : FD} {δ δ1 : Sl} {xs : List α} (p : α → Bool) (out : α → D) (δw : Sl) (h1 : fi δ = .ok (xs.map inj) δ1) (hfree : vs.all (freeS δ1) = true) (hw : wipeD δ1 vs = δw) (hr : restD δ1 vs δw = δ1) (hlen : xs.length ≤ 16777216)
    (he : ∀ x ∈ xs, ∃ δx, setT (inj x) δw = some δx ∧ ft δx = .ok (p x) δx ∧ (p x = true → fe δx = .ok (out x) δx) ∧ wipeD δx vs = δw) : fLc setT vs fi ft fe δ = .ok (.own (.l ((xs.filter p).map out))) δ1 := by
  have key : ∀ (ys : List α) (acc : List D), (∀ y ∈ ys, y ∈ xs) → acc.length + ys.length ≤ 16777216 → lcL setT vs ft fe (ys.map inj) acc δw = .ok (acc ++ (ys.filter p).map out) δw := by
    intro ys
    induction ys with
    | nil => intro acc _ _; simp [lcL]
    | cons y ys ih =>
      intro acc hm hl
      obtain ⟨δx, e1, e2, e3, e4⟩ := he y (hm y (by simp))
      simp only [List.map_cons, lcL, e1, e2, noX, Res.bind_ok]
      cases hp : p y with
      | true =>
        rw [if_pos rfl, e3 hp]
        simp only [noX, Res.bind_ok]
        rw [if_pos (by simp at hl; omega), e4, ih (acc ++ [out y]) (fun z hz => hm z (by simp [hz])) (by simp at hl ⊢; omega)]
        simp [hp]
      | false =>
        rw [if_neg (by simp), e4, ih acc (fun z hz => hm z (by simp [hz])) (by simp at hl ⊢; omega)]
        simp [hp]
  unfold fLc
  rw [h1, Res.bind_ok, if_pos hfree, hw, key xs [] (fun _ h => h) (by simpa using hlen), Res.bind_ok]
  simp only [List.nil_append, hr]
theorem lc_all {α : Type} {inj : α → D} {setT : D → Sl → Option Sl} {vs : List Nat} {fi : FA} {fe : FD} {δ δ1 : Sl} {xs : List α} (out : α → D) (δw : Sl) (h1 : fi δ = .ok (xs.map inj) δ1) (hfree : vs.all (freeS δ1) = true) (hw : wipeD δ1 vs = δw) (hr : restD δ1 vs δw = δ1) (hlen : xs.length ≤ 16777216)
    (he : ∀ x ∈ xs, ∃ δx, setT (inj x) δw = some δx ∧ fe δx = .ok (out x) δx ∧ wipeD δx vs = δw) : fLc setT vs fi tTrue fe δ = .ok (.own (.l (xs.map out))) δ1 := by
  have := lc_gen (ft := tTrue) (fun _ => true) out δw h1 hfree hw hr hlen fun x hx => by
    obtain ⟨δx, e1, e2, e3⟩ := he x hx
    exact ⟨δx, e1, rfl, fun _ => e2, e3⟩
  rw [this, List.filter_eq_self.mpr (fun _ _ => rfl)]
theorem gSum_l (xs : List Int) : gSum [.lst (iL xs)] = some (.imm (.int xs.sum)) := by simp [gSum, intsD_ints]
theorem itRg2W_ok {f g : FD} {δ δ1 δ2 : Sl} {a b : Int} (e1 : f δ = .ok (.int a) δ1) (e2 : g δ1 = .ok (.int b) δ2) : itRg2W f g δ = .ok (iL ((List.range (b - a).toNat).map fun i : Nat => a + (i : Int))) δ2 := by
  simp [itRg2W, e1, e2, rgD, iL, Function.comp_def]
theorem gSorted_l (xs : List Int) : gSorted [.lst (iL xs)] = some (.own (.l (iL (srt xs)))) := by
  simp only [gSorted, intsD_ints]; rfl
end
end TS

namespace TS
open PySem L2
noncomputable section
theorem strOk_app {a b : Str} (h : PyData.strOk a = true) (h' : PyData.strOk b = true) : PyData.strOk (a ++ b) = true := by
  have e : (a ++ b).cps = a.cps ++ b.cps := rfl
  unfold PyData.strOk at *
  rw [e, Array.all_append, h, h']; rfl
theorem strOk_from : ∀ (ts : List Str) (k : Nat) (acc : Str), PyData.strOk acc = true → (∀ t ∈ ts, PyData.strOk t = true) → PyData.strOk (textFrom k acc ts) = true
  | [], _, _, h, _ => h
  | t :: ts, k, acc, h, ht => strOk_from ts (k + 1) _ (strOk_app (strOk_app h (strOk_of _)) (ht t (by simp))) fun x hx => ht x (by simp [hx])
theorem strOk_join : ∀ (ts : List Str), (∀ t ∈ ts, PyData.strOk t = true) → PyData.strOk (Str.join ", " ts) = true
  | [], _ => strOk_of ""
  | [x], h => h x (by simp)
  | x :: y :: r, h => strOk_app (strOk_app (h x (by simp)) (strOk_of _)) (strOk_join (y :: r) fun z hz => h z (by simp [hz]))
mutual
def fine : PyData → Prop
  | .none => True
  | .bool _ => True
  | .int i => i.natAbs < 2 ^ 255
  | .str x => PyData.strOk (PyData.shown (.str x)) = true ∧ PyData.showable (.str x) = true ∧ PyData.leavesShort 80 (.str x) = true
  | .list xs => fineAll xs
  | .tuple xs => fineAll xs
  | .dict _ => False
def fineAll : List PyData → Prop
  | [] => True
  | x :: xs => fine x ∧ fineAll xs
end
mutual
theorem fine_text : ∀ p : PyData, fine p → PyData.strOk p.shown = true
  | .none, _ => strOk_of _
  | .bool b, _ => by unfold PyData.shown; split <;> exact strOk_of _
  | .int i, _ => by unfold PyData.shown; exact strOk_of _
  | .str _, h => by unfold fine at h; exact h.1
  | .list xs, h => by
    unfold fine at h
    unfold PyData.shown listText
    exact strOk_app (strOk_from _ _ _ (strOk_of _) (fineAll_text xs h)) (strOk_of _)
  | .tuple xs, h => by
    unfold fine at h
    unfold PyData.shown tupleText
    exact strOk_app (strOk_app (strOk_of _) (strOk_join _ (fineAll_text xs h))) (strOk_of _)
  | .dict _, h => by simp [fine] at h
theorem fineAll_text : ∀ xs : List PyData, fineAll xs → ∀ t ∈ PyData.shownAll xs, PyData.strOk t = true
  | [], _, t, ht => by simp [PyData.shownAll] at ht
  | x :: xs, h, t, ht => by
    unfold fineAll at h
    rw [PyData.shownAll, List.mem_cons] at ht
    rcases ht with rfl | ht
    · exact fine_text x h.1
    · exact fineAll_text xs h.2 t ht
end
theorem int_log {i : Int} (h : i.natAbs < 2 ^ 255) : i.natAbs.log2 < 1920 := by
  have := log2_lt h (by decide)
  omega
mutual
theorem fine_show : ∀ p : PyData, fine p → p.showable = true ∧ p.hasDict = false ∧ p.leavesShort 80 = true
  | .none, _ => by simp [PyData.showable, PyData.hasDict, PyData.leavesShort]
  | .bool b, _ => by simp [PyData.showable, PyData.hasDict, PyData.leavesShort]
  | .int i, h => by
    unfold fine at h
    have h2 := int_log h
    have h3 : (PyData.shown (.int i)).length ≤ 80 := by
      unfold PyData.shown
      have e := int_text_length_le10 (a := i) (k := 78) (by decide) (Nat.lt_trans h (by decide))
      show (Str.ofString (toString i)).length ≤ 80
      simp only [Str.length, Str.ofString_eq_toList, List.size_toArray, List.length_map]
      rw [String.length_toList]
      omega
    simp [PyData.showable, PyData.hasDict, PyData.leavesShort, h2, h3]
  | .str _, h => by unfold fine at h; exact ⟨h.2.1, by simp [PyData.hasDict], h.2.2⟩
  | .list xs, h => by
    unfold fine at h
    unfold PyData.showable PyData.hasDict PyData.leavesShort
    exact fineAll_show xs h
  | .tuple xs, h => by
    unfold fine at h
    unfold PyData.showable PyData.hasDict PyData.leavesShort
    exact fineAll_show xs h
  | .dict _, h => by simp [fine] at h
theorem fineAll_show : ∀ xs : List PyData, fineAll xs → PyData.showableAll xs = true ∧ PyData.hasDictAll xs = false ∧ PyData.leavesShortAll 80 xs = true
  | [], _ => by simp [PyData.showableAll, PyData.hasDictAll, PyData.leavesShortAll]
  | x :: xs, h => by
    unfold fineAll at h
    have h1 := fine_show x h.1
    have h2 := fineAll_show xs h.2
    simp [PyData.showableAll, PyData.hasDictAll, PyData.leavesShortAll, h1, h2]
end
theorem fine_sh {p : PyData} (h : fine p) (hd : p.depth ≤ 32) (hb : p.bulk ≤ 100000) : shOk p = true := by
  obtain ⟨h1, h2, h3⟩ := fine_show p h
  have := PyData.shown_le_bulk 80 (by decide) p h3
  exact gd_true ⟨h1, h2, hd, by show _ ≤ 2 ^ 24; omega⟩
theorem repr_fine {d : D} {p : PyData} (e : toP d = some p) (h : fine p) (hd : p.depth ≤ 32) (hb : p.bulk ≤ 100000) : gRepr [d] = some (.imm (.str p.shown)) := by
  simp only [gRepr, e, fine_sh h hd hb, if_true]
theorem fine_ints : ∀ {xs : List Int}, (∀ x ∈ xs, x.natAbs < 2 ^ 255) → fineAll (xs.map PyData.int)
  | [], _ => trivial
  | x :: xs, h => ⟨h x (by simp), fine_ints fun y hy => h y (by simp [hy])⟩
theorem bulk_ints : ∀ xs : List Int, PyData.bulkAll (xs.map PyData.int) = xs.length
  | [] => rfl
  | x :: xs => by simp only [List.map_cons, PyData.bulkAll, PyData.bulk, bulk_ints xs, List.length_cons]; omega
def reprL (xs : List Int) : Str := (PyData.list (xs.map PyData.int)).shown
theorem repr_l {xs : List Int} (h : ∀ x ∈ xs, x.natAbs < 2 ^ 255) (hl : xs.length ≤ 10000) : gRepr [.lst (iL xs)] = some (.imm (.str (reprL xs))) :=
  repr_fine (toP_l xs) (by unfold fine; exact fine_ints h) (by
    have := depth_ints xs
    simp only [PyData.depth]; omega) (by simp only [PyData.bulk, bulk_ints]; omega)
end
end TS

namespace TS
theorem per_dvd {t : List Int} (h : 0 < t.length) {n : Nat} (h0 : 0 < n) (hp : PerF (act t) n) : (least t).length ∣ n := by
  have m := leastP_min h
  rw [least_length h]
  have g := PerF.gcd (leastP t) n (leastP_dvd h).2.2 hp
  have hg : 0 < Nat.gcd (leastP t) n := Nat.gcd_pos_of_pos_right _ h0
  have := m.min _ hg g
  have e : Nat.gcd (leastP t) n = leastP t := Nat.le_antisymm (Nat.gcd_le_left _ (leastP_dvd h).2.1) this
  rw [← e]
  exact Nat.gcd_dvd_right _ _
theorem sm_mv {t : List Int} (h : Good t) {n : Nat} (h0 : 0 < n) (hp : PerF (act t) n) (f : Int → Int) (hf : PerF f n) : sm (fun i => f (mv t i)) n = sm f n := by
  have hd := per_dvd h.pos h0 hp
  have := rem_sum h.least hd h0 0 f hf
  simp only [Int.sub_zero, mv_least h] at this
  exact this
structure PF (u : List Int) (F B : Int) : Prop where
  good : Good u
  flow : flw u = F
  bd : ∀ x, -B ≤ act u x ∧ act u x ≤ B
  per : PerF (act u) (2520 : Nat)
theorem PF.sum {u : List Int} {F B : Int} (h : PF u F B) : sm (act u) 2520 = 2520 * F := by
  rw [← h.flow]; exact flw_per h.good (by decide) h.per
theorem PF.dvd {u : List Int} {F B : Int} (h : PF u F B) : (least u).length ∣ 2520 := per_dvd h.good.pos (by decide) h.per
theorem PF.lcm {u v : List Int} {F B F' B' : Int} (h : PF u F B) (h' : PF v F' B') : Nat.lcm (least u).length (least v).length ≤ 2520 := Nat.le_of_dvd (by decide) (Nat.lcm_dvd h.dvd h'.dvd)
theorem PF.mvper {u : List Int} {F B : Int} (h : PF u F B) (x : Int) : mv u (x + (2520 : Nat)) = mv u x + (2520 : Nat) := by
  unfold mv; rw [h.per]; omega
theorem PF.of_sum {u : List Int} {F B : Int} (g : Good u) (hp : PerF (act u) (2520 : Nat)) (hs : sm (act u) 2520 = 2520 * F) (hb : ∀ x, -B ≤ act u x ∧ act u x ≤ B) : PF u F B :=
  ⟨g, by have := flw_per g (by decide) hp; rw [hs] at this; omega, hb, hp⟩
theorem PF.mono {u : List Int} {F B B' : Int} (h : PF u F B) (hb : B ≤ B') : PF u F B' := ⟨h.good, h.flow, fun x => by have := h.bd x; omega, h.per⟩
theorem PF.join {u v w : List Int} {F B F' B' : Int} (h : PF u F B) (h' : PF v F' B') (g : Good w) (e : ∀ x, mv w x = mv v (mv u x)) : PF w (F + F') (B + B') := by
  have ea : ∀ x, act w x = act u x + act v (mv u x) := fun x => by
    have := e x
    unfold mv at this ⊢
    omega
  refine PF.of_sum g (fun x => ?_) ?_ fun x => ?_
  · rw [ea, ea, h.per, h.mvper, h'.per]
  · rw [sm_congr (g := fun i => act u i + act v (mv u i)) fun i _ => ea i, sm_plus, sm_mv h.good (by decide) h.per _ h'.per, h.sum, h'.sum, Int.mul_add]
  · have := h.bd x
    have := h'.bd (mv u x)
    rw [ea]; omega
theorem PF.id : PF [0] 0 0 := by
  have a : ∀ x, act [0] x = 0 := fun x => by have := mv_id x; unfold mv at this; omega
  exact PF.of_sum good_id (fun x => by rw [a, a]) (by rw [sm_congr (g := fun _ => 0) fun i _ => a i, sm_const]; rfl) fun x => by rw [a]; omega
end TS

namespace TS
open PySem L2
theorem for_st {fi : FA} {tg : R → Sl → SR} {body : FS} {δ δ1 : Sl} {ds : List D} {s : SR} (h1 : fi δ = .ok ds δ1) (h2 : forL tg body ds δ1 = s) : sFor fi tg body δ = s := by
  rw [ap_sFor, h1, Res.bindS_ok, h2]
end TS

namespace TS
open PySem L2
end TS

namespace TS
open PySem L2
noncomputable section
@[simp] theorem ap_fLenSet (f : FD) (δ : Sl) : fLenSet f δ = (f δ).bind fun d δ => match d with
  | .lst ds => (match intsD ds with
    | some ns => if ns.length ≤ 4000 then .ok (.int (ns.eraseDups.length : Nat)) δ else .bad
    | none => .bad)
  | _ => .bad := id rfl
@[simp] theorem ap_fxNil (δ : Sl) : fxNil δ = .ok [] δ := id rfl
@[simp] theorem ap_fxCons (f : FE) (g : FX) (δ : Sl) : fxCons f g δ = (f δ).bind fun r δ1 => match r with
  | .brw _ => .bad
  | .nst _ _ => .bad
  | r => (g δ1).bind fun rs δ2 => .ok (r :: rs) δ2 := id rfl
@[simp] theorem ap_sPar2E (i j : Nat) (f : FX) (δ : Sl) : sPar2E i j f δ = (f δ).bindS fun rs δ1 => match rs with
  | [a, b] => if i < δ1.length then .nx ((δ1.set i (some a)).set j (some b)) else .bad
  | _ => .bad := id rfl
@[simp] theorem ap_sPar3E (i j l : Nat) (f : FX) (δ : Sl) : sPar3E i j l f δ = (f δ).bindS fun rs δ1 => match rs with
  | [a, b, c] => if i < δ1.length ∧ j < δ1.length then .nx (((δ1.set i (some a)).set j (some b)).set l (some c)) else .bad
  | _ => .bad := id rfl
theorem nats_at {n j : Nat} (h : j < n) : (nats 0 n)[j]? = some (j : Int) := by simp [nats, h]
theorem nats_pre {n : Nat} {pre post : List Int} {x : Int} (e : nats 0 n = pre ++ x :: post) : x = (pre.length : Int) ∧ pre.length < n := by
  have h := pre_get e
  have hl : pre.length < (nats 0 n).length := (List.getElem?_eq_some_iff.mp h).1
  rw [nats_len] at hl
  rw [nats_at hl] at h
  exact ⟨(Option.some.inj h).symm, hl⟩
theorem nats_mem {n : Nat} {x : Int} (h : x ∈ nats 0 n) : 0 ≤ x ∧ x < n := by
  simp [nats] at h
  obtain ⟨a, ha, rfl⟩ := h
  omega
theorem nats_nodup (n : Nat) : (nats 0 n).Nodup := by
  rw [nodup_iff]
  intro i j hij hj e
  rw [nats_len] at hj
  rw [nats_at hj, nats_at (show i < n by omega)] at e
  have := Option.some.inj e
  omega
theorem good_goals {goals t : List Int} {n : Nat} (h0 : 0 < n) (h1 : n ≤ 2520) (q : goals.Perm (nats 0 n)) (l : t.length = n) (r : ∀ j : Nat, j < t.length → ∃ g u : Int, goals[j]? = some g ∧ t[j]? = some (g - j + n * u)) : Good t := by
  have hgl : goals.length = n := by rw [q.length_eq, nats_len]
  have hgb : ∀ g ∈ goals, 0 ≤ g ∧ g < n := fun g hg => nats_mem (q.mem_iff.mp hg)
  have hgn : goals.Nodup := (List.Perm.nodup_iff q).mpr (nats_nodup n)
  refine good_of_rems (by omega) (by omega) ?_
  have : rems t.length 0 t = goals := by
    apply List.ext_getElem?
    intro j
    rw [rems_get]
    by_cases hj : j < t.length
    · obtain ⟨g, u, h1, h5⟩ := r j hj
      rw [h5, h1]
      simp only [Option.map_some, Option.some.injEq, Nat.zero_add]
      obtain ⟨g0, g1⟩ := hgb g (List.mem_of_getElem? h1)
      rw [l, show (j : Int) + (g - j + n * u) = g + n * u by omega, Int.add_mul_emod_self_left, Int.emod_eq_of_lt g0 g1]
    · rw [List.getElem?_eq_none (by omega), List.getElem?_eq_none (by omega)]; rfl
  rw [this]; exact hgn
structure IsLap (t : List Int) (x : Int) (m : Nat) : Prop where
  pos : 0 < m
  le : m ≤ t.length
  dv : (pwr t (m : Int) x - x) % t.length = 0
  min : ∀ j : Nat, 0 < j → j < m → (pwr t (j : Int) x - x) % t.length ≠ 0
theorem pwr_lapN {t : List Int} (h : Good t) {m : Nat} {x q : Int} (e : pwr t (m : Int) x = x + q * t.length) : ∀ j : Nat, pwr t ((j : Int) * m) x = x + j * q * t.length
  | 0 => by simp [pwr_zero]
  | j + 1 => by
    rw [Int.natCast_succ, Int.add_mul, Int.one_mul, pwr_add h, pwr_lapN h e j, pwr_perk h, e, Int.add_mul, Int.one_mul, Int.add_mul]
    omega
theorem pwr_lapM {t : List Int} (h : Good t) {m : Nat} {x q : Int} (e : pwr t (m : Int) x = x + q * t.length) : ∀ j : Nat, pwr t (-(j : Int) * m) x = x + -(j : Int) * q * t.length
  | 0 => by simp [pwr_zero]
  | j + 1 => by
    have ih := pwr_lapM h e j
    have e2 : -((j + 1 : Nat) : Int) * m + m = -(j : Int) * m := by
      rw [Int.natCast_succ, Int.neg_add, Int.add_mul, Int.neg_mul 1, Int.one_mul]; omega
    rw [← e2, pwr_add h] at ih
    have e3 : x + -(j : Int) * q * t.length = pwr t (m : Int) (x + (-((j + 1 : Nat) : Int) * q) * t.length) := by
      rw [pwr_perk h, e, Int.natCast_succ, Int.neg_add, Int.add_mul, Int.add_mul, Int.neg_mul 1, Int.one_mul, Int.neg_mul q]
      omega
    rw [e3] at ih
    exact pwr_inj h _ _ _ ih
theorem pwr_lap {t : List Int} (h : Good t) {m : Nat} {x q : Int} (e : pwr t (m : Int) x = x + q * t.length) (j : Int) : pwr t (j * m) x = x + j * q * t.length := by
  rcases Int.le_total 0 j with z | z
  · obtain ⟨k, rfl⟩ := Int.eq_ofNat_of_zero_le z
    exact pwr_lapN h e k
  · obtain ⟨k, hk⟩ := Int.eq_ofNat_of_zero_le (show 0 ≤ -j by omega)
    have : j = -(k : Int) := by omega
    subst this
    exact pwr_lapM h e k
theorem IsLap.far {t : List Int} {x : Int} {m : Nat} (l : IsLap t x m) : pwr t (m : Int) x = x + (pwr t (m : Int) x - x) / t.length * t.length := by
  have := Int.ediv_mul_cancel_of_emod_eq_zero l.dv
  omega
theorem IsLap.after {t : List Int} (h : Good t) {x : Int} {m : Nat} (l : IsLap t x m) (k : Int) : pwr t (k % m) (x + k / m * (pwr t (m : Int) x - x)) = pwr t k x := by
  have e1 := pwr_lap h l.far (k / m)
  have e2 : k / m * ((pwr t (m : Int) x - x) / t.length) * t.length = k / m * (pwr t (m : Int) x - x) := by
    rw [Int.mul_assoc, Int.ediv_mul_cancel_of_emod_eq_zero l.dv]
  rw [e2] at e1
  have e3 : k / m * m + k % m = k := by have := Int.mul_ediv_add_emod k m; rw [Int.mul_comm] at this; omega
  rw [← e1, ← pwr_add h, e3]
end
end TS

namespace TS
open PySem L2
noncomputable section
@[simp] theorem ap_fChain (g g' : D → D → Option R) (fa fb fc : FD) (δ : Sl) : fChain g g' fa fb fc δ = (fa δ).bind fun x δ1 => (fb δ1).bind fun y δ2 => match g x y with
  | some (.imm (.bl true)) => (fc δ2).bind fun w δ3 => (match g' y w with
    | some z => .ok z δ3
    | none => .bad)
  | some (.imm (.bl false)) => .ok (.imm (.bl false)) δ2
  | _ => .bad := id rfl
@[simp] theorem ap_fGet (fo fk fx : FD) (δ : Sl) : fGet fo fk fx δ = (fo δ).bind fun d δ1 => if isDD d then (fk δ1).bind fun k δ2 => (fx δ2).bind fun x δ3 => (match gGet d k x with
  | some z => .ok z δ3
  | none => .bad) else .bad := id rfl
def isI : Option R → Bool
  | none => true
  | some (.imm _) => true
  | _ => false
@[simp] theorem isI_none : isI none = true := rfl
@[simp] theorem isI_imm (d : D) : isI (some (.imm d)) = true := rfl
end
end TS

namespace TS
open PySem L2
theorem herm0 {m : Nat} (h : 0 < m) : sm (fun j => ((0 : Int) + j) / m) m = 0 := by
  have : ∀ k : Nat, k ≤ m → sm (fun j => ((0 : Int) + j) / m) k = 0 := by
    intro k
    induction k with
    | zero => intro _; rfl
    | succ k ih =>
      intro hk
      have e : ((0 : Int) + (k : Int)) / (m : Int) = 0 := Int.ediv_eq_zero_of_lt (by omega) (by omega)
      rw [sm, ih (by omega), e]; rfl
  exact this m (Nat.le_refl _)
theorem herm_step {m : Nat} (h : 0 < m) (z : Int) : sm (fun j => (z + 1 + j) / m) m = sm (fun j => (z + j) / m) m + 1 := by
  have a := sm_add (fun j => (z + j) / m) 1 m
  have b := sm_add (fun j => (z + j) / m) m 1
  rw [Nat.add_comm] at a
  rw [a] at b
  have e1 : sm (fun i => (z + (((1 : Nat) : Int) + i)) / m) m = sm (fun j => (z + 1 + j) / m) m := sm_congr fun i _ => by
    congr 1
    omega
  have e2 : sm (fun j => (z + j) / (m : Int)) 1 = z / m := by simp [sm]
  have e3 : sm (fun i => (z + ((m : Int) + i)) / m) 1 = z / m + 1 := by
    simp only [sm]
    rw [show z + ((m : Int) + ((0 : Nat) : Int)) = z + m * 1 by omega, Int.add_mul_ediv_left z 1 (by omega)]
    omega
  rw [e1, e2, e3] at b
  omega
theorem herm {m : Nat} (h : 0 < m) (z : Int) : sm (fun j => (z + j) / m) m = z := by
  have up : ∀ k : Nat, sm (fun j => ((k : Int) + j) / m) m = k := by
    intro k
    induction k with
    | zero => exact herm0 h
    | succ k ih =>
      have := herm_step h (k : Int)
      rw [ih] at this
      rw [Int.natCast_succ]
      exact this
  have dn : ∀ k : Nat, sm (fun j => (-(k : Int) + j) / m) m = -(k : Int) := by
    intro k
    induction k with
    | zero => simpa using herm0 h
    | succ k ih =>
      have := herm_step h (-((k + 1 : Nat) : Int))
      rw [show -((k + 1 : Nat) : Int) + 1 = -(k : Int) by omega, ih] at this
      omega
  rcases Int.le_total 0 z with q | q
  · obtain ⟨k, rfl⟩ := Int.eq_ofNat_of_zero_le q
    exact up k
  · obtain ⟨k, hk⟩ := Int.eq_ofNat_of_zero_le (show 0 ≤ -z by omega)
    have : z = -(k : Int) := by omega
    subst this
    exact dn k
theorem herm2 {m p : Nat} (h : 0 < m) (hp : 0 < p) (y : Int) : sm (fun j => (y + j * p) / ((m * p : Nat) : Int)) m = y / p := by
  have e : sm (fun j => (y + j * p) / ((m * p : Nat) : Int)) m = sm (fun j => (y / p + j) / m) m := sm_congr fun i _ => by
    have q : (y + (i : Int) * p) / ((p : Int) * m) = (y + i * p) / p / m := by rw [Int.ediv_ediv, if_neg (by intro z; omega)]; omega
    rw [Int.natCast_mul, Int.mul_comm (m : Int), q, Int.add_mul_ediv_right _ _ (by omega)]
  rw [e, herm h]
theorem sm_grid (f : Int → Int) (p : Nat) : ∀ m : Nat, sm f (m * p) = sm (fun r => sm (fun j => f (j * p + r)) m) p
  | 0 => by
    rw [Nat.zero_mul]
    have : sm (fun r => sm (fun j => f (j * p + r)) 0) p = sm (fun _ => 0) p := rfl
    rw [this, sm_const]; simp [sm]
  | m + 1 => by
    rw [Nat.succ_mul, sm_add, sm_grid f p m, ← sm_plus]
    refine sm_congr fun r _ => ?_
    rw [sm, Int.natCast_mul]
def crs (t : List Int) (c : Int) (i : Int) : Int := (i + act t i - c) / t.length - (i - c) / t.length
def upT (t : List Int) (c : Int) : Int := sm (fun i => if crs t c i > 0 then crs t c i else 0) t.length
def dnT (t : List Int) (c : Int) : Int := sm (fun i => if 0 - crs t c i > 0 then 0 - crs t c i else 0) t.length
theorem upT_dnT {t : List Int} (h : Good t) (c : Int) : upT t c - dnT t c = flw t := by
  rw [← cnt_flw h c]
  unfold upT dnT cnt
  rw [← sm_minus]
  refine sm_congr fun i _ => ?_
  show _ = crs t c i
  split <;> split <;> omega
theorem crs_sign {t : List Int} (h0 : 0 < t.length) (c i : Int) : (0 ≤ act t i → 0 ≤ crs t c i) ∧ (act t i ≤ 0 → crs t c i ≤ 0) := by
  unfold crs
  constructor
  · intro h
    have := Int.ediv_le_ediv (show 0 < (t.length : Int) by omega) (show i - c ≤ i + act t i - c by omega)
    omega
  · intro h
    have := Int.ediv_le_ediv (show 0 < (t.length : Int) by omega) (show i + act t i - c ≤ i - c by omega)
    omega
theorem upT_eq {s t : List Int} (hs : 0 < s.length) (ht : 0 < t.length) (hd : s.length ∣ t.length) (e : act s = act t) (c : Int) : upT t c = upT s c := by
  obtain ⟨m, hm⟩ := hd
  have hm0 : 0 < m := by
    rcases Nat.eq_zero_or_pos m with z | z
    · rw [z] at hm; omega
    · exact z
  have hm' : t.length = m * s.length := by rw [hm, Nat.mul_comm]
  unfold upT
  rw [hm', sm_grid]
  refine sm_congr fun r hr => ?_
  have ea : ∀ j : Int, act t (j * s.length + r) = act s r := fun j => by
    rw [← e, Int.add_comm]
    have := (act_per s).mul j
    exact this r
  have key : sm (fun j => crs t c (j * s.length + r)) m = crs s c r := by
    have h1 := herm2 hm0 hs (r + act s r - c)
    have h2 := herm2 hm0 hs (r - c)
    unfold crs
    rw [← h1, ← h2, ← sm_minus]
    refine sm_congr fun j _ => ?_
    rw [ea, hm', show (j : Int) * s.length + r + act s r - c = r + act s r - c + j * s.length by omega, show (j : Int) * s.length + r - c = r - c + j * s.length by omega]
  rcases Int.le_total 0 (act s r) with z | z
  · have n1 : ∀ j : Int, 0 ≤ crs t c (j * s.length + r) := fun j => (crs_sign ht c _).1 (by rw [ea]; exact z)
    have n2 := (crs_sign hs c r).1 z
    rw [show (if crs s c r > 0 then crs s c r else 0) = crs s c r by split <;> omega, ← key]
    refine sm_congr fun j _ => ?_
    have := n1 j
    split <;> omega
  · have n1 : ∀ j : Int, crs t c (j * s.length + r) ≤ 0 := fun j => (crs_sign ht c _).2 (by rw [ea]; exact z)
    have n2 := (crs_sign hs c r).2 z
    rw [show (if crs s c r > 0 then crs s c r else 0) = 0 by split <;> omega]
    have : sm (fun j => if crs t c (j * s.length + r) > 0 then crs t c (j * s.length + r) else 0) m = sm (fun _ => 0) m := sm_congr fun j _ => by
      have := n1 j
      split <;> omega
    rw [this, sm_const]; simp
theorem upT_least {t : List Int} (h : Good t) (c : Int) : upT (least t) c = upT t c :=
  (upT_eq h.least.pos h.pos (leastP_dvd_len h) (least_act h.pos) c).symm
end TS

namespace TS
open PySem L2
noncomputable section
theorem eq_fine {p : PyData} (h : fine p) : gEq (.str p.shown) (.str p.shown) = some (.imm (.bl true)) := by
  rw [gEq_str (fine_text p h) (fine_text p h)]; simp
end
end TS

namespace TS
open PySem L2
noncomputable section
@[simp] theorem ap_fRes (i : Nat) (res : Res D) (δ : Sl) : fRes i res δ = match δ[i]? with
  | some (some (.imm .lam)) => (match res with
    | .ok d _ => .ok (.imm d) δ
    | .exc x _ => .exc x δ
    | .bad => .bad)
  | _ => .bad := rfl
@[simp] theorem ap_fReprD (fa : FD) (δ : Sl) : fReprD fa δ = (fa δ).bind fun d δ1 => match gReprD d with
  | some x => .ok (.str x) δ1
  | none => .bad := rfl
@[simp] theorem ap_fLam (ixs : List Nat) (mt : Res D → Fm) (fb : FE) (δ : Sl) : fLam ixs mt fb δ = outL (mt (thk fb (frzS ixs δ)) none [.lam]) (frzS ixs δ) := rfl
@[simp] theorem ap_fCMethK (n : Nat) (f : Fm) (l : Nat) (fk : FA) (δ : Sl) : fCMethK n f l fk δ = (fk δ).bind fun ds δ1 => if ds.length = l then outE (f none (.cls n :: ds)) δ1 else .bad := rfl
@[simp] theorem ap_hNil (y : XD) : hNil y = none := rfl
@[simp] theorem ap_sRaise (n k : Nat) (fa : FA) (δ : Sl) : sRaise n k fa δ = (fa δ).bindS fun ds δ1 => if ds.length = k then .exc ⟨n, ds.reverse⟩ δ1 else .bad := rfl
@[simp] theorem outE_exc (x : XD) (io : Option OB) (δ : Sl) : outE (.exc x io) δ = .exc x δ := rfl
theorem gEq_self {d : D} {p : PyData} (e : toP d = some p) (h : SeqAt.shaped p = true) : gEq d d = some (.imm (.bl true)) := by
  have h2 : p.canLay0 = true := by unfold SeqAt.shaped at h; exact (Bool.and_eq_true _ _ ▸ h).1
  simp only [gEq, e, h, Bool.and_self, if_true, SeqAt.eqv_refl p h2]
theorem gNe_self {d : D} {p : PyData} (e : toP d = some p) (h : SeqAt.shaped p = true) : gNe d d = some (.imm (.bl false)) := by
  have h2 : p.canLay0 = true := by unfold SeqAt.shaped at h; exact (Bool.and_eq_true _ _ ▸ h).1
  simp only [gNe, e, h, Bool.and_self, if_true, SeqAt.eqv_refl p h2]
  rfl
theorem dups_nodup : ∀ {xs : List Int}, xs.Nodup → xs.eraseDups = xs
  | [], _ => rfl
  | x :: xs, h => by
    rw [List.nodup_cons] at h
    rw [List.eraseDups_cons, List.filter_eq_self.mpr, dups_nodup h.2]
    intro y hy
    have : y ≠ x := fun z => h.1 (z ▸ hy)
    simpa using this
end
end TS

namespace TS
open PySem L2
noncomputable section
@[simp] theorem mu_nst (tp : Bool) (ps : List (D ⊕ OB)) : (R.nst tp ps).mu = false := rfl
@[simp] theorem seeS_nil : seeS [] = [] := rfl
@[simp] theorem seeS_cons (x : Option R) (δ : Sl) : seeS (x :: δ) = x.bind seeR :: seeS δ := rfl
@[simp] theorem seeR_imm (d : D) : seeR (.imm d) = some (.imm d) := rfl
@[simp] theorem seeR_l (xs : List D) : seeR (.own (.l xs)) = some (.imm (.lst xs)) := rfl
@[simp] theorem seeR_o (n : Nat) (xs : List D) : seeR (.own (.o n xs)) = some (.imm (.obj n xs)) := rfl
@[simp] theorem seeR_dK (ks : List Key) (xs : List D) : seeR (.own (.dK ks xs)) = none := rfl
@[simp] theorem seeR_dT (ks : List (List Key)) (xs : List D) : seeR (.own (.dT ks xs)) = none := rfl
@[simp] theorem seeR_bl (xs : List D) : seeR (.brw (.l xs)) = some (.imm (.lst xs)) := rfl
@[simp] theorem seeR_nst (tp : Bool) (ps : List (D ⊕ OB)) : seeR (.nst tp ps) = if ps.all pL then some (.imm (nstD tp ps)) else none := rfl
@[simp] theorem pD_l (d : D) : pD (.inl d) = d := rfl
@[simp] theorem pD_r (o : OB) : pD (.inr o) = o.toD := rfl
@[simp] theorem pL_l (d : D) : pL (.inl d) = true := rfl
@[simp] theorem pL_r (o : OB) : pL (.inr o) = !o.dic := rfl
@[simp] theorem dic_l (xs : List D) : (OB.l xs).dic = false := rfl
@[simp] theorem dic_o (n : Nat) (xs : List D) : (OB.o n xs).dic = false := rfl
@[simp] theorem nstD_f (ps : List (D ⊕ OB)) : nstD false ps = .lst (ps.map pD) := rfl
@[simp] theorem nstD_t (ps : List (D ⊕ OB)) : nstD true ps = .tup (ps.map pD) := rfl
@[simp] theorem flatQ_bl (b : Bool) : flatQ (.imm (.bl b)) = true := rfl
@[simp] theorem flatQ_int (b : Int) : flatQ (.imm (.int b)) = true := rfl
@[simp] theorem flatQ_str (b : Str) : flatQ (.imm (.str b)) = true := rfl
@[simp] theorem flatQ_non : flatQ (.imm .non) = true := rfl
@[simp] theorem flatQ_l (xs : List D) : flatQ (.own (.l xs)) = xs.all flatD := rfl
theorem flat_iL (xs : List Int) : (iL xs).all flatD = true := by
  rw [List.all_eq_true]; intro d hd
  obtain ⟨x, _, rfl⟩ := List.mem_map.mp hd; rfl
@[simp] theorem ap_fSee (f : FE) (δ : Sl) : fSee f δ = match f (seeS δ) with
  | .ok r _ => if flatQ r then .ok r δ else .bad
  | _ => .bad := rfl
@[simp] theorem ap_tSee (f : FT) (δ : Sl) : tSee f δ = match f (seeS δ) with
  | .ok b _ => .ok b δ
  | _ => .bad := rfl
@[simp] theorem killN_nil : killN [] = [] := rfl
@[simp] theorem killN_cons (x : Option R) (δ : Sl) : killN (x :: δ) = kill1 x :: killN δ := rfl
@[simp] theorem kill1_none : kill1 none = none := rfl
@[simp] theorem kill1_imm (d : D) : kill1 (some (.imm d)) = some (.imm d) := rfl
@[simp] theorem kill1_own (d : OB) : kill1 (some (.own d)) = some (.own d) := rfl
@[simp] theorem kill1_brw (d : OB) : kill1 (some (.brw d)) = some (.brw d) := rfl
@[simp] theorem kill1_nst (tp : Bool) (ps : List (D ⊕ OB)) : kill1 (some (.nst tp ps)) = none := rfl
@[simp] theorem kill_nx (δ : Sl) : SR.kill (.nx δ) = .nx (killN δ) := rfl
@[simp] theorem kill_rt (r : R) (δ : Sl) : SR.kill (.rt r δ) = .rt r (killN δ) := rfl
@[simp] theorem kill_bk (δ : Sl) : SR.kill (.bk δ) = .bk (killN δ) := rfl
@[simp] theorem kill_ct (δ : Sl) : SR.kill (.ct δ) = .ct (killN δ) := rfl
@[simp] theorem kill_exc (x : XD) (δ : Sl) : SR.kill (.exc x δ) = .exc x (killN δ) := rfl
@[simp] theorem ndOf_nil : ndOf [] = [] := rfl
@[simp] theorem ndOf_imm (d : D) (rs : List R) : ndOf (.imm d :: rs) = .inl d :: ndOf rs := rfl
@[simp] theorem ndOf_own (d : OB) (rs : List R) : ndOf (.own d :: rs) = .inr d :: ndOf rs := rfl
@[simp] theorem ap_fNst (f : FX) (δ : Sl) : fNst f δ = (f δ).bind fun rs δ1 => if (ndOf rs).length ≤ 16777216 then .ok (.nst false (ndOf rs)) δ1 else .bad := rfl
@[simp] theorem ap_fNstT (f : FX) (δ : Sl) : fNstT f δ = (f δ).bind fun rs δ1 => if (ndOf rs).length ≤ 16777216 then .ok (.nst true (ndOf rs)) δ1 else .bad := rfl
theorem hold_nst {f : FE} {i : Nat} {g : FS} {δ δ1 : Sl} {tp : Bool} {ps : List (D ⊕ OB)} (h : f δ = .ok (.nst tp ps) δ1) : sHold f i g δ = (g ((killN δ1).set i (some (.nst tp ps)))).kill := by
  unfold sHold; rw [h]; rfl
theorem mutN_at {i : Nat} {fi : FD} {m : List D → List D → Option (D × List D)} {fa : FA} {g : FS} {δ : Sl} {k : Int} {tp : Bool} {ps : List (D ⊕ OB)} {j : Nat} {ds ds' as : List D} {z : D} (h1 : fi δ = .ok (.int k) δ) (h2 : fa δ = .ok as δ) (h3 : getN δ i k = some (tp, ps, j, ds)) (h4 : m ds as = some (z, ds')) :
    sMutN i fi m fa g δ = g ((killN δ).set i (some (.nst tp (ps.set j (.inr (.l ds')))))) := by
  have hn : hasN δ i = true := by
    obtain ⟨e, _⟩ := getN_some h3
    unfold hasN; rw [e]
  unfold sMutN
  rw [if_pos hn, h1, Res.bindS_ok]
  simp only [h3]
  rw [h2, Res.bindS_ok]
  simp only [h3, h4]
end
end TS

namespace TS
open PySem L2
noncomputable section
@[simp] theorem ap_fReprT (fa : FD) (δ : Sl) : fReprT fa δ = (fa δ).bind fun d δ1 => match gReprT d with
  | some x => .ok (.str x) δ1
  | none => .bad := rfl
@[simp] theorem ap_itZip3 (f g h : FD) (δ : Sl) : itZip3 f g h δ = (f δ).bind fun d δ => (g δ).bind fun d' δ => (h δ).bind fun d'' δ => match d, d', d'' with
  | .lst m, .lst n, .lst k => .ok (zip3D m n k) δ
  | _, _, _ => .bad := rfl
@[simp] theorem ap_fNstT' (f : FX) (δ : Sl) : fNstT f δ = (f δ).bind fun rs δ1 => if (ndOf rs).length ≤ 16777216 then .ok (.nst true (ndOf rs)) δ1 else .bad := rfl
@[simp] theorem tup2N_nst (i j : Nat) (x y : D ⊕ OB) (δ : Sl) : tTup2N i j (.nst true [x, y]) δ = if i = j then .bad else .nx ((δ.set i (some (nSlot x))).set j (some (nSlot y))) := rfl
@[simp] theorem nSlot_l (d : D) : nSlot (.inl d) = .imm d := rfl
@[simp] theorem nSlot_r (o : OB) : nSlot (.inr o) = .own o := rfl
end
end TS

namespace TS
open PySem L2
noncomputable section
@[simp] theorem ap_fLEnum (f : FD) (δ : Sl) : fLEnum f δ = (f δ).bind fun d δ => match d with
  | .lst ds => .ok (.own (.l (enumD 0 ds))) δ
  | _ => .bad := rfl
@[simp] theorem ap_fLItems (f : FD) (δ : Sl) : fLItems f δ = (f δ).bind fun d δ => match d with
  | .dK ks ds => .ok (.own (.l (zipD (ks.map keyD) ds))) δ
  | .dT ks ds => .ok (.own (.l (zipD (ks.map keysD) ds))) δ
  | _ => .bad := rfl
@[simp] theorem ap_fPopD (x : Nat) (fi : FD) (δ : Sl) : fPopD x fi δ = if dicR δ x then (fi δ).bind fun i δ1 => match δ1[x]? with
  | some (some (.own o)) => (match popOB o i with
    | some (d, o') => .ok d (δ1.set x (some (.own o')))
    | none => .bad)
  | some (some (.brw o)) => (match popOB o i with
    | some (d, o') => .ok d (δ1.set x (some (.brw o')))
    | none => .bad)
  | _ => .bad else .bad := rfl
@[simp] theorem ap_frzN (f : FE) (δ : Sl) : frzN f δ = (f δ).bind fun r δ1 => match r with
  | .nst tp ps => if ps.all pL then .ok (nstD tp ps) δ1 else .bad
  | .imm d => .ok d δ1
  | .own o => .ok o.toD δ1
  | .brw _ => .bad := by
  unfold frzN
  cases f δ with
  | ok r δ1 => cases r <;> rfl
  | exc x δ1 => rfl
  | bad => rfl
end
end TS

set_option maxHeartbeats 0
namespace K32
open PySem L2 TS
structure Ev (K : PySem.W.Frag) (mg : Str → Option Value) (base : Heap) : Prop where
  c : SaysS fa fn K
  X : K.In base
  G : base.Ns mainGlobals mg
  t : ∀ p ∈ csOf tn K, LamX.TabB base mg p.1 p.2
  m : ∀ x ∈ tn, fnRef x.1 K = true
  u : ∀ x ∈ tn, ∀ y ∈ tn, tbA x.1 K = tbA y.1 K → x.2 = y.2
def MM (K : PySem.W.Frag) : Gm where
  K := K
  G := fun n => match n with | 0 => some (He.ga K "Plan") | 100 => some (He.ga K "InvalidInteger") | 102 => some (He.ga K "InvalidTable") | 115 => some (He.ga K "TooLong") | 116 => some (He.ga K "TooMany") | _ => none
  nm := fun n => match n with | 0 => ["own_offsets", "own_sources"] | 100 => ["value"] | 102 => ["earlier", "position", "problem"] | 115 => ["multiple"] | 116 => ["many"] | _ => []
  T := tsOf tn K
noncomputable section
variable {P : Program} {w : World} {K : PySem.W.Frag} {mg : Str → Option Value} {base : Heap}
theorem nm_lt : ∀ n, ((MM K).nm n).length < 1000 := by
  intro n
  show (match n with | 0 => ["own_offsets", "own_sources"] | 100 => ["value"] | 102 => ["earlier", "position", "problem"] | 115 => ["multiple"] | 116 => ["many"] | _ => [] : List Str).length < 1000
  split <;> decide
theorem u_len (v : Ev K mg base) : mg "len" = none := He.free_ok v.X v.G (v.c.fact 0 (f := .he (.free "len")))
theorem u_min (v : Ev K mg base) : mg "min" = none := He.free_ok v.X v.G (v.c.fact 1 (f := .he (.free "min")))
theorem u_max (v : Ev K mg base) : mg "max" = none := He.free_ok v.X v.G (v.c.fact 2 (f := .he (.free "max")))
theorem u_range (v : Ev K mg base) : mg "range" = none := He.free_ok v.X v.G (v.c.fact 3 (f := .he (.free "range")))
theorem u_divmod (v : Ev K mg base) : mg "divmod" = none := He.free_ok v.X v.G (v.c.fact 4 (f := .he (.free "divmod")))
theorem u_int (v : Ev K mg base) : mg "int" = none := He.free_ok v.X v.G (v.c.fact 5 (f := .he (.free "int")))
theorem u__law_draw (v : Ev K mg base) : mg "_law_draw" = some (.ref (He.ga K "_law_draw")) := He.glo_ok v.X v.G (v.c.fact 6 (f := .he (.glo "_law_draw")))
theorem u__law_pick (v : Ev K mg base) : mg "_law_pick" = some (.ref (He.ga K "_law_pick")) := He.glo_ok v.X v.G (v.c.fact 7 (f := .he (.glo "_law_pick")))
theorem u_list (v : Ev K mg base) : mg "list" = none := He.free_ok v.X v.G (v.c.fact 8 (f := .he (.free "list")))
theorem u__law_mixed (v : Ev K mg base) : mg "_law_mixed" = some (.ref (He.ga K "_law_mixed")) := He.glo_ok v.X v.G (v.c.fact 9 (f := .he (.glo "_law_mixed")))
theorem u_enumerate (v : Ev K mg base) : mg "enumerate" = none := He.free_ok v.X v.G (v.c.fact 10 (f := .he (.free "enumerate")))
theorem u_least_table (v : Ev K mg base) : mg "least_table" = some (.ref (He.ga K "least_table")) := He.glo_ok v.X v.G (v.c.fact 13 (f := .he (.glo "least_table")))
theorem u_tuple (v : Ev K mg base) : mg "tuple" = none := He.free_ok v.X v.G (v.c.fact 14 (f := .he (.free "tuple")))
theorem u_isinstance (v : Ev K mg base) : mg "isinstance" = none := He.free_ok v.X v.G (v.c.fact 15 (f := .he (.free "isinstance")))
theorem u_InvalidTable (v : Ev K mg base) : mg "InvalidTable" = some (.ref (He.ga K "InvalidTable")) := He.glo_ok v.X v.G (v.c.fact 20 (f := .he (.glo "InvalidTable")))
theorem u_Move (v : Ev K mg base) : mg "Move" = some (.ref (He.ga K "Move")) := He.glo_ok v.X v.G (v.c.fact 23 (f := .he (.glo "Move")))
theorem u_TooLong (v : Ev K mg base) : mg "TooLong" = some (.ref (He.ga K "TooLong")) := He.glo_ok v.X v.G (v.c.fact 26 (f := .he (.glo "TooLong")))
theorem u_bool (v : Ev K mg base) : mg "bool" = none := He.free_ok v.X v.G (v.c.fact 29 (f := .he (.free "bool")))
theorem u_is_integer (v : Ev K mg base) : mg "is_integer" = some (.ref (He.ga K "is_integer")) := He.glo_ok v.X v.G (v.c.fact 31 (f := .he (.glo "is_integer")))
theorem u_checked_table (v : Ev K mg base) : mg "checked_table" = some (.ref (He.ga K "checked_table")) := He.glo_ok v.X v.G (v.c.fact 32 (f := .he (.glo "checked_table")))
theorem u_Plan (v : Ev K mg base) : mg "Plan" = some (.ref (He.ga K "Plan")) := He.glo_ok v.X v.G (v.c.fact 35 (f := .he (.glo "Plan")))
theorem u_sources_of (v : Ev K mg base) : mg "sources_of" = some (.ref (He.ga K "sources_of")) := He.glo_ok v.X v.G (v.c.fact 37 (f := .he (.glo "sources_of")))
theorem u__law_great (v : Ev K mg base) : mg "_law_great" = some (.ref (He.ga K "_law_great")) := He.glo_ok v.X v.G (v.c.fact 39 (f := .he (.glo "_law_great")))
theorem u_abs (v : Ev K mg base) : mg "abs" = none := He.free_ok v.X v.G (v.c.fact 40 (f := .he (.free "abs")))
theorem u__law_at (v : Ev K mg base) : mg "_law_at" = some (.ref (He.ga K "_law_at")) := He.glo_ok v.X v.G (v.c.fact 41 (f := .he (.glo "_law_at")))
theorem u__law_found (v : Ev K mg base) : mg "_law_found" = some (.ref (He.ga K "_law_found")) := He.glo_ok v.X v.G (v.c.fact 42 (f := .he (.glo "_law_found")))
theorem u_ArithmeticError (v : Ev K mg base) : mg "ArithmeticError" = none := He.free_ok v.X v.G (v.c.fact 59 (f := .he (.free "ArithmeticError")))
theorem u_LimitError (v : Ev K mg base) : mg "LimitError" = some (.ref (He.ga K "LimitError")) := He.glo_ok v.X v.G (v.c.fact 64 (f := .he (.glo "LimitError")))
theorem u_repr (v : Ev K mg base) : mg "repr" = none := He.free_ok v.X v.G (v.c.fact 66 (f := .he (.free "repr")))
theorem u_TooMany (v : Ev K mg base) : mg "TooMany" = some (.ref (He.ga K "TooMany")) := He.glo_ok v.X v.G (v.c.fact 67 (f := .he (.glo "TooMany")))
theorem u_InvalidInteger (v : Ev K mg base) : mg "InvalidInteger" = some (.ref (He.ga K "InvalidInteger")) := He.glo_ok v.X v.G (v.c.fact 68 (f := .he (.glo "InvalidInteger")))
theorem u_require_integer (v : Ev K mg base) : mg "require_integer" = some (.ref (He.ga K "require_integer")) := He.glo_ok v.X v.G (v.c.fact 69 (f := .he (.glo "require_integer")))
theorem u_crossing_ranges (v : Ev K mg base) : mg "crossing_ranges" = some (.ref (He.ga K "crossing_ranges")) := He.glo_ok v.X v.G (v.c.fact 71 (f := .he (.glo "crossing_ranges")))
theorem u_count_with (v : Ev K mg base) : mg "count_with" = some (.ref (He.ga K "count_with")) := He.glo_ok v.X v.G (v.c.fact 72 (f := .he (.glo "count_with")))
theorem u_sum (v : Ev K mg base) : mg "sum" = none := He.free_ok v.X v.G (v.c.fact 74 (f := .he (.free "sum")))
theorem u_crossing_count (v : Ev K mg base) : mg "crossing_count" = some (.ref (He.ga K "crossing_count")) := He.glo_ok v.X v.G (v.c.fact 75 (f := .he (.glo "crossing_count")))
theorem u_places_with (v : Ev K mg base) : mg "places_with" = some (.ref (He.ga K "places_with")) := He.glo_ok v.X v.G (v.c.fact 76 (f := .he (.glo "places_with")))
theorem u_sorted (v : Ev K mg base) : mg "sorted" = none := He.free_ok v.X v.G (v.c.fact 77 (f := .he (.free "sorted")))
theorem u_crossing_places (v : Ev K mg base) : mg "crossing_places" = some (.ref (He.ga K "crossing_places")) := He.glo_ok v.X v.G (v.c.fact 78 (f := .he (.glo "crossing_places")))
theorem u_carried_up (v : Ev K mg base) : mg "carried_up" = some (.ref (He.ga K "carried_up")) := He.glo_ok v.X v.G (v.c.fact 79 (f := .he (.glo "carried_up")))
theorem u__law_told (v : Ev K mg base) : mg "_law_told" = some (.ref (He.ga K "_law_told")) := He.glo_ok v.X v.G (v.c.fact 80 (f := .he (.glo "_law_told")))
theorem u_carried_down (v : Ev K mg base) : mg "carried_down" = some (.ref (He.ga K "carried_down")) := He.glo_ok v.X v.G (v.c.fact 81 (f := .he (.glo "carried_down")))
theorem u__law_asked (v : Ev K mg base) : mg "_law_asked" = some (.ref (He.ga K "_law_asked")) := He.glo_ok v.X v.G (v.c.fact 82 (f := .he (.glo "_law_asked")))
theorem u__law_far_right (v : Ev K mg base) : mg "_law_far_right" = some (.ref (He.ga K "_law_far_right")) := He.glo_ok v.X v.G (v.c.fact 83 (f := .he (.glo "_law_far_right")))
theorem u__law_spans (v : Ev K mg base) : mg "_law_spans" = some (.ref (He.ga K "_law_spans")) := He.glo_ok v.X v.G (v.c.fact 84 (f := .he (.glo "_law_spans")))
theorem u__law_count (v : Ev K mg base) : mg "_law_count" = some (.ref (He.ga K "_law_count")) := He.glo_ok v.X v.G (v.c.fact 85 (f := .he (.glo "_law_count")))
theorem u__law_default (v : Ev K mg base) : mg "_law_default" = some (.ref (He.ga K "_law_default")) := He.glo_ok v.X v.G (v.c.fact 86 (f := .he (.glo "_law_default")))
theorem u_set (v : Ev K mg base) : mg "set" = none := He.free_ok v.X v.G (v.c.fact 87 (f := .he (.free "set")))
theorem u__law_list_right (v : Ev K mg base) : mg "_law_list_right" = some (.ref (He.ga K "_law_list_right")) := He.glo_ok v.X v.G (v.c.fact 88 (f := .he (.glo "_law_list_right")))
theorem u__law_cut_right (v : Ev K mg base) : mg "_law_cut_right" = some (.ref (He.ga K "_law_cut_right")) := He.glo_ok v.X v.G (v.c.fact 89 (f := .he (.glo "_law_cut_right")))
theorem u_all (v : Ev K mg base) : mg "all" = none := He.free_ok v.X v.G (v.c.fact 90 (f := .he (.free "all")))
theorem u__law_long_right (v : Ev K mg base) : mg "_law_long_right" = some (.ref (He.ga K "_law_long_right")) := He.glo_ok v.X v.G (v.c.fact 91 (f := .he (.glo "_law_long_right")))
theorem u__law_turns (v : Ev K mg base) : mg "_law_turns" = some (.ref (He.ga K "_law_turns")) := He.glo_ok v.X v.G (v.c.fact 92 (f := .he (.glo "_law_turns")))
theorem u__law_table (v : Ev K mg base) : mg "_law_table" = some (.ref (He.ga K "_law_table")) := He.glo_ok v.X v.G (v.c.fact 93 (f := .he (.glo "_law_table")))
theorem u__law_right (v : Ev K mg base) : mg "_law_right" = some (.ref (He.ga K "_law_right")) := He.glo_ok v.X v.G (v.c.fact 94 (f := .he (.glo "_law_right")))
theorem u__law_pot (v : Ev K mg base) : mg "_law_pot" = some (.ref (He.ga K "_law_pot")) := He.glo_ok v.X v.G (v.c.fact 95 (f := .he (.glo "_law_pot")))
abbrev g__law_draw_1a_1 : FS := (sAsg (fCal gDivmod (aCons (frz (fBinV gIx 0 (kD (.int 0)))) (aCons (vI 1) aNil))) (tTup 2 (tsCons (tSub 0 (kD (.int 0))) (tsCons (tName 2) tsNil))))
abbrev g__law_draw_1a_2 : FS := (sRet (vR 2))
abbrev g__law_draw_1 : FS := (sIf (fTst (fBin gGt (frz (fBinV gIx 0 (kD (.int 0)))) (kD (.int 0)))) (sSeq g__law_draw_1a_1 g__law_draw_1a_2) sNil)
abbrev g__law_draw_2 : FS := (sAsg (toE (frz (fBin gMod (frz (fCal gInt (aOne (frz (fBin gAdd (frz (fBin gMul (frz (fBinV gIx 0 (kD (.int 1)))) (kD (.int 39373)))) (kD (.int 12227))))))) (kD (.int 2147483629))))) (tSub 0 (kD (.int 1))))
abbrev g__law_draw_3 : FS := (sRet (fBin gMod (frz (fCal gInt (aOne (frz (fBin gFdiv (frz (fBin gMod (frz (fCal gInt (aOne (frz (fBin gMul (frz (fBinV gIx 0 (kD (.int 1)))) (frz (fBinV gIx 0 (kD (.int 1))))))))) (kD (.int 2147483563)))) (kD (.int 13))))))) (vP 1)))
def g__law_draw : FS := (sSeq g__law_draw_1 (sSeq g__law_draw_2 g__law_draw_3))
theorem S__law_draw : FnScope ["_law_pot_here", "_law_many", "_law_digit"] ["_law_pot_here", "_law_many"] (defScope (top 33)) := ⟨rfl, rfl, rfl, by decide +kernel, rfl, by decide +kernel, by decide +kernel⟩
theorem kp__law_draw (v : Ev K mg base) : PySem.W.keepIn K (.ref (He.ga K "_law_draw")) = true := (v.c.def_ 0 (d := d__law_draw) rfl).elim fun _ F => F.kp
theorem b__law_draw (v : Ev K mg base) : BodyOk (MM K) P w K mg base 0 "_law_draw" (top 33) (He.ga K "_law_draw") ["_law_pot_here", "_law_many", "_law_digit"] g__law_draw :=
  fun cdv A outer s H E hr tk hp => (dss_cons (ds_if (t_gt (DE.frz (x_ixV hr (pv 0) (DI.pk di_int))) (DI.pk di_int)) (dss_cons (ds_asg (b_divmod (by rfl) (u_divmod v) (DA.b (da_cons (DE.frz (x_ixV hr (pv 0) (DI.pk di_int))) (da_cons (di_var (pv 1)) da_nil)))) (dg_tup (by rfl) (dgs_cons (dg_sub (pv 0) di_int (hu_of hr)) (dgs_cons (dg_name (pg_name S__law_draw.nd (by rfl) (by first | exact Or.inl rfl | exact Or.inr rfl))) dgs_nil))) (tgt_tup (tgs_cons tgt_sub (tgs_cons (tgt_name 2) tgs_nil))))
    (dss_one (ds_ret (de_var (pv 2))))) dss_nil)
    (dss_cons (ds_asg (DI.toE (DE.frz (x_mod (DE.frz (b_int (by rfl) (u_int v) (db_one (DE.pk (x_add (DE.frz (x_mul (DE.frz (x_ixV hr (pv 0) (DI.pk di_int))) (DI.pk di_int))) (DI.pk di_int)))))) (DI.pk di_int)))) (dg_sub (pv 0) di_int (hu_of hr)) tgt_sub)
    (dss_one (ds_ret (x_mod (DE.frz (b_int (by rfl) (u_int v) (db_one (DE.pk (x_fdiv (DE.frz (x_mod (DE.frz (b_int (by rfl) (u_int v) (db_one (DE.pk (x_mul (DE.frz (x_ixV hr (pv 0) (DI.pk di_int))) (DE.pk (x_ixV hr (pv 0) (DI.pk di_int)))))))) (DI.pk di_int))) (DI.pk di_int)))))) (dp_var (pv 1)))))))
def m__law_draw : Fm := mir 3 2 g__law_draw
theorem o__law_draw (v : Ev K mg base) : DefOk (MM K) P w K mg base 1 "_law_draw" "_law_draw" (top 33) [] (He.ga K "_law_draw") ["_law_pot_here", "_law_many"] m__law_draw := by
  obtain ⟨fd, F⟩ := v.c.def_ 0 (d := d__law_draw) rfl
  exact ⟨fd, F, funD_mir (M := MM K) F S__law_draw (by decide) (fun cdv A outer s H E hr tk hp => b__law_draw v cdv A outer s H E hr tk hp)⟩
theorem f__law_draw (v : Ev K mg base) : TS.FnR P w K mg base (L2.CX P w) 1 (He.ga K "_law_draw") (spD (MM K) m__law_draw) := by
  obtain ⟨fd, F, O⟩ := o__law_draw (P := P) (w := w) v
  exact fnR_raw (M := MM K) O (F.bindsN (ps := ["_law_pot_here", "_law_many"]) fun _ _ _ _ _ _ us hl => match us, hl with | [_, _], _ => rfl)
abbrev g__law_pick_1 : FS := (sRet (fBin gIx (vI 1) (frz (fOwnIo m__law_draw 0 (aCons (frz (fCal gLen (aOne (vP 1)))) aNil)))))
def g__law_pick : FS := g__law_pick_1
theorem S__law_pick : FnScope ["_law_pot_here", "_law_some"] ["_law_pot_here", "_law_some"] (defScope (top 34)) := ⟨rfl, rfl, rfl, by decide +kernel, rfl, by decide +kernel, by decide +kernel⟩
theorem kp__law_pick (v : Ev K mg base) : PySem.W.keepIn K (.ref (He.ga K "_law_pick")) = true := (v.c.def_ 1 (d := d__law_pick) rfl).elim fun _ F => F.kp
theorem b__law_pick (v : Ev K mg base) : BodyOk (MM K) P w K mg base 1 "_law_pick" (top 34) (He.ga K "_law_pick") ["_law_pot_here", "_law_some"] g__law_pick :=
  fun cdv A outer s H E hr tk hp => (dss_one (ds_ret (x_ix hr (di_var (pv 1)) (DE.pk (d_ownIo (fun h => pe_own ((f__law_draw v).mono (by decide)) hr tk (by rfl) (u__law_draw v) (kp__law_draw v) h) (pv 0) (da_cons (DE.frz (b_len (by rfl) (u_len v) (db_one (dp_var (pv 1))))) da_nil))))))
def m__law_pick : Fm := mir 2 2 g__law_pick
theorem o__law_pick (v : Ev K mg base) : DefOk (MM K) P w K mg base 2 "_law_pick" "_law_pick" (top 34) [] (He.ga K "_law_pick") ["_law_pot_here", "_law_some"] m__law_pick := by
  obtain ⟨fd, F⟩ := v.c.def_ 1 (d := d__law_pick) rfl
  exact ⟨fd, F, funD_mir (M := MM K) F S__law_pick (by decide) (fun cdv A outer s H E hr tk hp => b__law_pick v cdv A outer s H E hr tk hp)⟩
theorem f__law_pick (v : Ev K mg base) : TS.FnR P w K mg base (L2.CX P w) 2 (He.ga K "_law_pick") (spD (MM K) m__law_pick) := by
  obtain ⟨fd, F, O⟩ := o__law_pick (P := P) (w := w) v
  exact fnR_raw (M := MM K) O (F.bindsN (ps := ["_law_pot_here", "_law_some"]) fun _ _ _ _ _ _ us hl => match us, hl with | [_, _], _ => rfl)
abbrev g__law_mixed_1 : FS := (sPar 2 3 (fCal gList (aOne (vP 1))) (fLst aNil))
abbrev g__law_mixed_2_1 : FS := (sExpr (toE (fMut 3 mAppend (aCons (fMut 2 mPop (aCons (frz (fOwnIo m__law_draw 0 (aCons (frz (fCal gLen (aOne (vP 2)))) aNil))) aNil)) aNil))))
abbrev g__law_mixed_2B : FS := g__law_mixed_2_1
abbrev g__law_mixed_2 : FS := (sWhile (muL 2) (fTst (fBinV gNe 2 (frz (fLst aNil)))) g__law_mixed_2B)
abbrev g__law_mixed_3 : FS := (sRet (vR 3))
def g__law_mixed : FS := (sSeq g__law_mixed_1 (sSeq g__law_mixed_2 g__law_mixed_3))
theorem S__law_mixed : FnScope ["_law_pot_here", "_law_some", "_law_rest", "_law_found_here"] ["_law_pot_here", "_law_some"] (defScope (top 35)) := ⟨rfl, rfl, rfl, by decide +kernel, rfl, by decide +kernel, by decide +kernel⟩
theorem kp__law_mixed (v : Ev K mg base) : PySem.W.keepIn K (.ref (He.ga K "_law_mixed")) = true := (v.c.def_ 2 (d := d__law_mixed) rfl).elim fun _ F => F.kp
theorem b__law_mixed (v : Ev K mg base) : BodyOk (MM K) P w K mg base 1 "_law_mixed" (top 35) (He.ga K "_law_mixed") ["_law_pot_here", "_law_some", "_law_rest", "_law_found_here"] g__law_mixed :=
  fun cdv A outer s H E hr tk hp => (dss_cons (ds_par (i := 2) (j := 3) (by rfl) S__law_mixed.nd (by rfl) (by rfl) (by decide) (by rfl) (by rfl) (b_list (by rfl) (u_list v) (db_one (dp_var (pv 1)))) (de_lst da_nil) (by rfl))
    (dss_cons (ds_while (muL 2) hp (t_neV hr (pv 2) (DE.pk (de_lst da_nil))) (dss_one (ds_expr (DI.toE (m_append (pv 3) (da_cons (m_pop (pv 2) (da_cons (DE.frz (d_ownIo (fun h => pe_own ((f__law_draw v).mono (by decide)) hr tk (by rfl) (u__law_draw v) (kp__law_draw v) h) (pv 0) (da_cons (DE.frz (b_len (by rfl) (u_len v) (db_one (dp_var (pv 2))))) da_nil))) da_nil)) da_nil))))))
    (dss_one (ds_ret (de_var (pv 3))))))
def m__law_mixed : Fm := mir 4 2 g__law_mixed
theorem o__law_mixed (v : Ev K mg base) : DefOk (MM K) P w K mg base 2 "_law_mixed" "_law_mixed" (top 35) [] (He.ga K "_law_mixed") ["_law_pot_here", "_law_some"] m__law_mixed := by
  obtain ⟨fd, F⟩ := v.c.def_ 2 (d := d__law_mixed) rfl
  exact ⟨fd, F, funD_mir (M := MM K) F S__law_mixed (by decide) (fun cdv A outer s H E hr tk hp => b__law_mixed v cdv A outer s H E hr tk hp)⟩
theorem f__law_mixed (v : Ev K mg base) : TS.FnR P w K mg base (L2.CX P w) 2 (He.ga K "_law_mixed") (spD (MM K) m__law_mixed) := by
  obtain ⟨fd, F, O⟩ := o__law_mixed (P := P) (w := w) v
  exact fnR_raw (M := MM K) O (F.bindsN (ps := ["_law_pot_here", "_law_some"]) fun _ _ _ _ _ _ us hl => match us, hl with | [_, _], _ => rfl)
def ix_own_offsets : Nat → Option Nat := fun n => match n with
  | 0 => some 0
  | _ => none
theorem F_own_offsets (v : Ev K mg base) : FldT (MM K) "own_offsets" ix_own_offsets := by
  intro n j h
  unfold ix_own_offsets at h
  split at h
  · cases h
    exact ⟨fun C e => by cases e; exact ⟨He.cls_ok (v.c.fact 11 (f := .he (.cls "Plan"))), He.noat_ok (v.c.fact 12 (f := .he (.noat "Plan" "own_offsets")))⟩, rfl, show ("own_offsets" : Str) ∉ (["own_offsets", "own_sources"] : List Str).take 0 from by decide +kernel⟩
  · cases h
abbrev g_least_table_1 : FS := (sAsg (fCal gLen (aOne (vP 0))) (tName 1))
abbrev g_least_table_2_1a_1 : FS := (sRet (fSl (vI 0) oNone (oSome (vI 2))))
abbrev g_least_table_2_1 : FS := (sIf (fAnd (fTst (fBin gEq (frz (fBin gMod (vI 1) (vP 2))) (kD (.int 0)))) (fTst (fBin gEq (frz (fBin gMul (frz (fSl (vI 0) oNone (oSome (vI 2)))) (frz (fBin gFdiv (vI 1) (vP 2))))) (vP 0)))) g_least_table_2_1a_1 sNil)
abbrev g_least_table_2B : FS := g_least_table_2_1
abbrev g_least_table_2 : FS := (sFor (itRg2 (kD (.int 1)) (vI 1)) (tName 2) g_least_table_2B)
abbrev g_least_table_3 : FS := (sRet (vR 0))
def g_least_table : FS := (sSeq g_least_table_1 (sSeq g_least_table_2 g_least_table_3))
theorem S_least_table : FnScope ["offsets", "length", "period"] ["offsets"] (defScope (top 16)) := ⟨rfl, rfl, rfl, by decide +kernel, rfl, by decide +kernel, by decide +kernel⟩
theorem kp_least_table (v : Ev K mg base) : PySem.W.keepIn K (.ref (He.ga K "least_table")) = true := (v.c.def_ 3 (d := d_least_table) rfl).elim fun _ F => F.kp
theorem b_least_table (v : Ev K mg base) : BodyOk (MM K) P w K mg base 0 "least_table" (top 16) (He.ga K "least_table") ["offsets", "length", "period"] g_least_table :=
  fun cdv A outer s H E hr tk hp => (dss_cons (ds_set (i := 1) S_least_table.nd (by rfl) (by first | exact Or.inl rfl | exact Or.inr rfl) (b_len (by rfl) (u_len v) (db_one (dp_var (pv 0)))))
    (dss_cons (ds_for hp (by rfl) (dit_rg2 (by rfl) (u_range v) di_int (di_var (pv 1))) (dg_name (pg_name S_least_table.nd (by rfl) (by first | exact Or.inl rfl | exact Or.inr rfl))) (tgt_name 2) (dss_one (ds_if (DW.pt (dw_and (t_eq hr (DE.frz (x_mod (di_var (pv 1)) (dp_var (pv 2)))) (DI.pk di_int)) (dw_and1 (t_eq hr (DE.frz (x_mul (DE.frz (de_sl (di_var (pv 0)) do_none (do_some (di_var (pv 2))))) (DE.pk (x_fdiv (di_var (pv 1)) (dp_var (pv 2)))))) (dp_var (pv 0)))))) (dss_one (ds_ret (de_sl (di_var (pv 0)) do_none (do_some (di_var (pv 2)))))) dss_nil)))
    (dss_one (ds_ret (de_var (pv 0))))))
def m_least_table : Fm := mir 3 1 g_least_table
theorem o_least_table (v : Ev K mg base) : DefOk (MM K) P w K mg base 1 "least_table" "least_table" (top 16) [] (He.ga K "least_table") ["offsets"] m_least_table := by
  obtain ⟨fd, F⟩ := v.c.def_ 3 (d := d_least_table) rfl
  exact ⟨fd, F, funD_mir (M := MM K) F S_least_table (by decide) (fun cdv A outer s H E hr tk hp => b_least_table v cdv A outer s H E hr tk hp)⟩
theorem f_least_table (v : Ev K mg base) : TS.FnR P w K mg base (L2.CX P w) 1 (He.ga K "least_table") (spD (MM K) m_least_table) := by
  obtain ⟨fd, F, O⟩ := o_least_table (P := P) (w := w) v
  exact fnR_raw (M := MM K) O (F.bindsN (ps := ["offsets"]) fun _ _ _ _ _ _ us hl => match us, hl with | [_], _ => rfl)
def is_list_tuple : Tg → Option Bool := tabTy ["list", "tuple"] fun _ => none
theorem is_list_tuple_ok : IsT (MM K) ((["list", "tuple"] : List String).map Value.type) is_list_tuple := isT_own0
theorem ex_InvalidTable (v : Ev K mg base) : OxC K (He.ga K "InvalidTable") ∧ XqC K (He.ga K "InvalidTable") ∧ PySem.W.findIn K (.ref (He.ga K "InvalidTable")) "__init__" = some (some (.ref (He.ma K (He.ga K "InvalidTable") "__init__"))) ∧ PySem.W.typeIn K (.ref (He.ma K (He.ga K "InvalidTable") "__init__")) = some (.type "function") := exc_ok Bas.ve (v.c.fact 16 (f := .exc "InvalidTable" "ValueError"))
theorem S_InvalidTable___init__ : FnScope ["self", "problem", "position", "earlier"] ["self", "problem", "position", "earlier"] (defScope (inClass (top 4) 0)) := ⟨rfl, rfl, rfl, by decide +kernel, rfl, by decide +kernel, by decide +kernel⟩
theorem xd_InvalidTable (v : Ev K mg base) : ∃ fd, TS.FnOk P w K mg base (L2.CX P w) 1 (He.ma K (He.ga K "InvalidTable") "__init__") fd ["self", "problem", "position", "earlier"] (spX (He.ga K "InvalidTable") ["problem", "position", "earlier"]) ∧ Binds K fd ["self", "problem", "position", "earlier"] [] := by
  obtain ⟨fd, F⟩ := v.c.def_ 4 (d := d_InvalidTable___init__) rfl
  exact ⟨fd, funD_ini F S_InvalidTable___init__ (by decide) (fun cdv A outer s H E => (init_body (N := []) (sp0 := ()) (ex_InvalidTable v).1 (He.noat_ok (K := K) (v.c.fact 17 (f := .he (.noat "InvalidTable" "problem")))) rfl (pv 0) (pv 1) (inis_cons (ex_InvalidTable v).1 (He.noat_ok (K := K) (v.c.fact 18 (f := .he (.noat "InvalidTable" "position")))) rfl (pv 0) (pv 2) (by decide) (inis_cons (ex_InvalidTable v).1 (He.noat_ok (K := K) (v.c.fact 19 (f := .he (.noat "InvalidTable" "earlier")))) rfl (pv 0) (pv 3) (by decide) (inis_nil rfl))))), F.bindsN (ps := ["self", "problem", "position", "earlier"]) fun _ _ _ _ _ _ us hl => match us, hl with | [_, _, _, _], _ => rfl⟩
theorem ex_TooLong (v : Ev K mg base) : OxC K (He.ga K "TooLong") ∧ XqC K (He.ga K "TooLong") ∧ PySem.W.findIn K (.ref (He.ga K "TooLong")) "__init__" = some (some (.ref (He.ma K (He.ga K "TooLong") "__init__"))) ∧ PySem.W.typeIn K (.ref (He.ma K (He.ga K "TooLong") "__init__")) = some (.type "function") := exc_ok Bas.ar (v.c.fact 24 (f := .exc "TooLong" "ArithmeticError"))
theorem S_TooLong___init__ : FnScope ["self", "multiple"] ["self", "multiple"] (defScope (inClass (top 6) 0)) := ⟨rfl, rfl, rfl, by decide +kernel, rfl, by decide +kernel, by decide +kernel⟩
theorem xd_TooLong (v : Ev K mg base) : ∃ fd, TS.FnOk P w K mg base (L2.CX P w) 1 (He.ma K (He.ga K "TooLong") "__init__") fd ["self", "multiple"] (spX (He.ga K "TooLong") ["multiple"]) ∧ Binds K fd ["self", "multiple"] [] := by
  obtain ⟨fd, F⟩ := v.c.def_ 5 (d := d_TooLong___init__) rfl
  exact ⟨fd, funD_ini F S_TooLong___init__ (by decide) (fun cdv A outer s H E => (init_body (N := []) (sp0 := ()) (ex_TooLong v).1 (He.noat_ok (K := K) (v.c.fact 25 (f := .he (.noat "TooLong" "multiple")))) rfl (pv 0) (pv 1) (inis_nil rfl))), F.bindsN (ps := ["self", "multiple"]) fun _ _ _ _ _ _ us hl => match us, hl with | [_, _], _ => rfl⟩
theorem y_Plan (v : Ev K mg base) : InsTy K (He.ga K "Plan") := by
  obtain ⟨h1, h2, h3, h4⟩ := ity_ok (v.c.fact 27 (f := .ity "Plan"))
  exact ⟨He.cls_ok (v.c.fact 11 (f := .he (.cls "Plan"))), h1, h2, h3, h4⟩
def is_bool_o : Nat → Option Bool := fun n => match n with
  | 0 => some false
  | _ => none
def is_bool : Tg → Option Bool := tabTy ["bool"] is_bool_o
theorem is_bool_ok (v : Ev K mg base) : IsT (MM K) ((["bool"] : List String).map Value.type) is_bool := isT_ty fun n b C h hG => by
  unfold is_bool_o at h
  split at h
  · cases h
    cases hG
    exact ⟨(kitAny_cons (kitC_ok (v.c.fact 28)) (fun _ => kitAny_nil) (fun z => by cases z)), y_Plan v⟩
  · cases h
def is_int_o : Nat → Option Bool := fun n => match n with
  | 0 => some false
  | _ => none
def is_int : Tg → Option Bool := tabTy ["int"] is_int_o
theorem is_int_ok (v : Ev K mg base) : IsT (MM K) ((["int"] : List String).map Value.type) is_int := isT_ty fun n b C h hG => by
  unfold is_int_o at h
  split at h
  · cases h
    cases hG
    exact ⟨(kitAny_cons (kitC_ok (v.c.fact 30)) (fun _ => kitAny_nil) (fun z => by cases z)), y_Plan v⟩
  · cases h
abbrev g_is_integer_1 : FS := (sRet (fAndV (fIsi is_int (vP 0)) (toE (fNotV (fIsi is_bool (vP 0))))))
def g_is_integer : FS := g_is_integer_1
theorem S_is_integer : FnScope ["value"] ["value"] (defScope (top 9)) := ⟨rfl, rfl, rfl, by decide +kernel, rfl, by decide +kernel, by decide +kernel⟩
theorem kp_is_integer (v : Ev K mg base) : PySem.W.keepIn K (.ref (He.ga K "is_integer")) = true := (v.c.def_ 6 (d := d_is_integer) rfl).elim fun _ F => F.kp
theorem b_is_integer (v : Ev K mg base) : BodyOk (MM K) P w K mg base 0 "is_integer" (top 9) (He.ga K "is_integer") ["value"] g_is_integer :=
  fun cdv A outer s H E hr tk hp => (dss_one (ds_ret (de_and (b_isi (by rfl) (u_isinstance v) (dp_var (pv 0)) (k_ty bt_int (by rfl) (u_int v)) (ClsV.ty "int") (is_int_ok v)) (de_one (DI.toE (di_not (b_isi (by rfl) (u_isinstance v) (dp_var (pv 0)) (k_ty bt_bool (by rfl) (u_bool v)) (ClsV.ty "bool") (is_bool_ok v))))))))
def m_is_integer : Fm := mir 1 1 g_is_integer
theorem o_is_integer (v : Ev K mg base) : DefOk (MM K) P w K mg base 1 "is_integer" "is_integer" (top 9) [] (He.ga K "is_integer") ["value"] m_is_integer := by
  obtain ⟨fd, F⟩ := v.c.def_ 6 (d := d_is_integer) rfl
  exact ⟨fd, F, funD_mir (M := MM K) F S_is_integer (by decide) (fun cdv A outer s H E hr tk hp => b_is_integer v cdv A outer s H E hr tk hp)⟩
theorem f_is_integer (v : Ev K mg base) : TS.FnR P w K mg base (L2.CX P w) 1 (He.ga K "is_integer") (spD (MM K) m_is_integer) := by
  obtain ⟨fd, F, O⟩ := o_is_integer (P := P) (w := w) v
  exact fnR_raw (M := MM K) O (F.bindsN (ps := ["value"]) fun _ _ _ _ _ _ us hl => match us, hl with | [_], _ => rfl)
abbrev g_checked_table_1a_1 : FS := (sRaise 102 3 (aCons (kD (.str "table")) (aCons (kD .non) (aCons (kD .non) aNil))))
abbrev g_checked_table_1 : FS := (sIf (fOr (fNot (fTst (toE (fIsi is_list_tuple (vP 0))))) (fTst (fBin gEq (frz (fCal gLen (aOne (vP 0)))) (kD (.int 0))))) g_checked_table_1a_1 sNil)
abbrev g_checked_table_2 : FS := (sAsg (fCal gLen (aOne (vP 0))) (tName 2))
abbrev g_checked_table_3a_1 : FS := (sRaise 115 1 (aCons (vI 2) aNil))
abbrev g_checked_table_3 : FS := (sIf (fTst (fBin gGt (vI 2) (kD (.int 2520)))) g_checked_table_3a_1 sNil)
abbrev g_checked_table_4_1a_1 : FS := (sRaise 102 3 (aCons (kD (.str "integer")) (aCons (vI 4) (aCons (kD .non) aNil))))
abbrev g_checked_table_4_1 : FS := (sIf (fNot (fTst (fOwn m_is_integer (aCons (vI 5) aNil)))) g_checked_table_4_1a_1 sNil)
abbrev g_checked_table_4B : FS := g_checked_table_4_1
abbrev g_checked_table_4 : FS := (sFor (itEnumLT (vI 0)) (tTup 2 (tsCons (tName 4) (tsCons (tName 5) tsNil))) g_checked_table_4B)
abbrev g_checked_table_5 : FS := (sAsg (fun δ => .ok (.own (.dK [] [])) δ) (tName 3))
abbrev g_checked_table_6_1 : FS := (sAsg (fBin gMod (frz (fBin gAdd (frz (fBin gMul (vI 1) (vP 4))) (vP 5))) (vP 2)) (tName 6))
abbrev g_checked_table_6_2a_1 : FS := (sRaise 102 3 (aCons (kD (.str "meeting")) (aCons (vI 4) (aCons (frz (fBinV gIx 3 (vP 6))) aNil))))
abbrev g_checked_table_6_2 : FS := (sIf (fTst (fBin gIn (vI 6) (vP 3))) g_checked_table_6_2a_1 sNil)
abbrev g_checked_table_6_3 : FS := (sAsg (toE (vI 4)) (tSub 3 (vI 6)))
abbrev g_checked_table_6B : FS := (sSeq g_checked_table_6_1 (sSeq g_checked_table_6_2 g_checked_table_6_3))
abbrev g_checked_table_6 : FS := (sFor (itEnumLT (vI 0)) (tTup 2 (tsCons (tName 4) (tsCons (tName 5) tsNil))) g_checked_table_6B)
abbrev g_checked_table_7 : FS := (sRet (fCal gList (aOne (vP 0))))
def g_checked_table : FS := (sSeq g_checked_table_1 (sSeq g_checked_table_2 (sSeq g_checked_table_3 (sSeq g_checked_table_4 (sSeq g_checked_table_5 (sSeq g_checked_table_6 g_checked_table_7))))))
theorem S_checked_table : FnScope ["offsets", "sign", "period", "first", "position", "offset", "remainder"] ["offsets", "sign"] (defScope (top 15)) := ⟨rfl, rfl, rfl, by decide +kernel, rfl, by decide +kernel, by decide +kernel⟩
theorem kp_checked_table (v : Ev K mg base) : PySem.W.keepIn K (.ref (He.ga K "checked_table")) = true := (v.c.def_ 7 (d := d_checked_table) rfl).elim fun _ F => F.kp
theorem b_checked_table (v : Ev K mg base) : BodyOk (MM K) P w K mg base 2 "checked_table" (top 15) (He.ga K "checked_table") ["offsets", "sign", "period", "first", "position", "offset", "remainder"] g_checked_table :=
  fun cdv A outer s H E hr tk hp => (dss_cons (ds_if (DW.pt (dw_or (dt_not (dt_val (DI.toE (b_isiT (vs := [V.ty "list", V.ty "tuple"]) (by rfl) (u_isinstance v) (dp_var (pv 0)) (pa_cons (k_ty bt_list (by rfl) (u_list v)) (pa_cons (k_ty bt_tuple (by rfl) (u_tuple v)) pa_nil)) (fun σ H Q h => h) (Paired.cons (ClsV.ty "list") (Paired.cons (ClsV.ty "tuple") Paired.nil)) (by decide) is_list_tuple_ok)))) (dw_or1 (t_eq hr (DE.frz (b_len (by rfl) (u_len v) (db_one (dp_var (pv 0))))) (DI.pk di_int))))) (dss_one (Exists.elim (xd_InvalidTable (P := P) (w := w) v) fun _ h => ds_raise (n := 102) (ns := ["problem", "position", "earlier"]) rfl rfl rfl (ex_InvalidTable v).1 (ex_InvalidTable v).2.2.1 (ex_InvalidTable v).2.2.2 h.1 hr (by decide) (by decide) h.2 (by rfl) tk (by rfl) (u_InvalidTable v) (da_cons di_str (da_cons di_non (da_cons di_non da_nil))))) dss_nil)
    (dss_cons (ds_set (i := 2) S_checked_table.nd (by rfl) (by first | exact Or.inl rfl | exact Or.inr rfl) (b_len (by rfl) (u_len v) (db_one (dp_var (pv 0)))))
    (dss_cons (ds_if (t_gt (di_var (pv 2)) (DI.pk (Exists.elim (cint_ok (v.c.fact 22 (f := .cint "Move" "MAX_PERIOD" 2520))) fun _ hu => di_cval (pe_glob (by rfl) (u_Move v) (by rfl)) (cread_ok (v.c.fact 21 (f := .cread "Move"))) hu fun F => rep_int' _))) (dss_one (Exists.elim (xd_TooLong (P := P) (w := w) v) fun _ h => ds_raise (n := 115) (ns := ["multiple"]) rfl rfl rfl (ex_TooLong v).1 (ex_TooLong v).2.2.1 (ex_TooLong v).2.2.2 h.1 hr (by decide) (by decide) h.2 (by rfl) tk (by rfl) (u_TooLong v) (da_cons (di_var (pv 2)) da_nil))) dss_nil)
    (dss_cons (ds_for hp (by rfl) (dit_enumLT (by rfl) (u_enumerate v) (di_var (pv 0))) (dg_tup (by rfl) (dgs_cons (dg_name (pg_name S_checked_table.nd (by rfl) (by first | exact Or.inl rfl | exact Or.inr rfl))) (dgs_cons (dg_name (pg_name S_checked_table.nd (by rfl) (by first | exact Or.inl rfl | exact Or.inr rfl))) dgs_nil))) (tgt_tup (tgs_cons (tgt_name 4) (tgs_cons (tgt_name 5) tgs_nil))) (dss_one (ds_if (dt_not (dt_val (d_own (fun h => pe_own ((f_is_integer v).mono (by decide)) hr tk (by rfl) (u_is_integer v) (kp_is_integer v) h) (da_cons (di_var (pv 5)) da_nil)))) (dss_one (Exists.elim (xd_InvalidTable (P := P) (w := w) v) fun _ h => ds_raise (n := 102) (ns := ["problem", "position", "earlier"]) rfl rfl rfl (ex_InvalidTable v).1 (ex_InvalidTable v).2.2.1 (ex_InvalidTable v).2.2.2 h.1 hr (by decide) (by decide) h.2 (by rfl) tk (by rfl) (u_InvalidTable v) (da_cons di_str (da_cons (di_var (pv 4)) (da_cons di_non da_nil))))) dss_nil)))
    (dss_cons (ds_set (i := 3) S_checked_table.nd (by rfl) (by first | exact Or.inl rfl | exact Or.inr rfl) de_dnew)
    (dss_cons (ds_for hp (by rfl) (dit_enumLT (by rfl) (u_enumerate v) (di_var (pv 0))) (dg_tup (by rfl) (dgs_cons (dg_name (pg_name S_checked_table.nd (by rfl) (by first | exact Or.inl rfl | exact Or.inr rfl))) (dgs_cons (dg_name (pg_name S_checked_table.nd (by rfl) (by first | exact Or.inl rfl | exact Or.inr rfl))) dgs_nil))) (tgt_tup (tgs_cons (tgt_name 4) (tgs_cons (tgt_name 5) tgs_nil))) (dss_cons (ds_set (i := 6) S_checked_table.nd (by rfl) (by first | exact Or.inl rfl | exact Or.inr rfl) (x_mod (DE.frz (x_add (DE.frz (x_mul (di_var (pv 1)) (dp_var (pv 4)))) (dp_var (pv 5)))) (dp_var (pv 2))))
    (dss_cons (ds_if (t_in hr (di_var (pv 6)) (dp_var (pv 3))) (dss_one (Exists.elim (xd_InvalidTable (P := P) (w := w) v) fun _ h => ds_raise (n := 102) (ns := ["problem", "position", "earlier"]) rfl rfl rfl (ex_InvalidTable v).1 (ex_InvalidTable v).2.2.1 (ex_InvalidTable v).2.2.2 h.1 hr (by decide) (by decide) h.2 (by rfl) tk (by rfl) (u_InvalidTable v) (da_cons di_str (da_cons (di_var (pv 4)) (da_cons (DE.frz (x_ixV hr (pv 3) (dp_var (pv 6)))) da_nil))))) dss_nil)
    (dss_one (ds_asg (DI.toE (di_var (pv 4))) (dg_sub (pv 3) (di_var (pv 6)) (hu_of hr)) tgt_sub)))))
    (dss_one (ds_ret (b_list (by rfl) (u_list v) (db_one (dp_var (pv 0))))))))))))
def m_checked_table : Fm := mir 7 2 g_checked_table
theorem o_checked_table (v : Ev K mg base) : DefOk (MM K) P w K mg base 3 "checked_table" "checked_table" (top 15) [] (He.ga K "checked_table") ["offsets", "sign"] m_checked_table := by
  obtain ⟨fd, F⟩ := v.c.def_ 7 (d := d_checked_table) rfl
  exact ⟨fd, F, funD_mir (M := MM K) F S_checked_table (by decide) (fun cdv A outer s H E hr tk hp => b_checked_table v cdv A outer s H E hr tk hp)⟩
theorem f_checked_table (v : Ev K mg base) : TS.FnR P w K mg base (L2.CX P w) 3 (He.ga K "checked_table") (spD (MM K) m_checked_table) := by
  obtain ⟨fd, F, O⟩ := o_checked_table (P := P) (w := w) v
  exact fnR_raw (M := MM K) O (F.bindsN (ps := ["offsets", "sign"]) fun _ _ _ _ _ _ us hl => match us, hl with | [_, _], _ => rfl)
def ix_own_sources : Nat → Option Nat := fun n => match n with
  | 0 => some 1
  | _ => none
theorem F_own_sources (v : Ev K mg base) : FldT (MM K) "own_sources" ix_own_sources := by
  intro n j h
  unfold ix_own_sources at h
  split at h
  · cases h
    exact ⟨fun C e => by cases e; exact ⟨He.cls_ok (v.c.fact 11 (f := .he (.cls "Plan"))), He.noat_ok (v.c.fact 36 (f := .he (.noat "Plan" "own_sources")))⟩, rfl, show ("own_sources" : Str) ∉ (["own_offsets", "own_sources"] : List Str).take 1 from by decide +kernel⟩
  · cases h
abbrev g_sources_of_1 : FS := (sAsg (fLc (stName 3) [3] (itSeq (vI 0)) tTrue (kD (.int 0))) (tName 1))
abbrev g_sources_of_2_1 : FS := (sAsg (toE (vI 2)) (tSub 1 (frz (fBin gMod (frz (fBin gAdd (vI 2) (vP 3))) (frz (fCal gLen (aOne (vP 0))))))))
abbrev g_sources_of_2B : FS := g_sources_of_2_1
abbrev g_sources_of_2 : FS := (sFor (itEnum (vI 0)) (tTup 2 (tsCons (tName 2) (tsCons (tName 3) tsNil))) g_sources_of_2B)
abbrev g_sources_of_3 : FS := (sRet (vR 1))
def g_sources_of : FS := (sSeq g_sources_of_1 (sSeq g_sources_of_2 g_sources_of_3))
theorem S_sources_of : FnScope ["offsets", "found", "place", "offset"] ["offsets"] (defScope (top 21)) := ⟨rfl, rfl, rfl, by decide +kernel, rfl, by decide +kernel, by decide +kernel⟩
theorem kp_sources_of (v : Ev K mg base) : PySem.W.keepIn K (.ref (He.ga K "sources_of")) = true := (v.c.def_ 8 (d := d_sources_of) rfl).elim fun _ F => F.kp
theorem b_sources_of (v : Ev K mg base) : BodyOk (MM K) P w K mg base 0 "sources_of" (top 21) (He.ga K "sources_of") ["offsets", "found", "place", "offset"] g_sources_of :=
  fun cdv A outer s H E hr tk hp => (dss_cons (ds_setLc (i := 1) (own := [("offset", 3)]) (by rfl) (by rfl) S_sources_of.nd (by rfl) (by rfl) (by rfl) (dit_list (di_var (pv 0))) (blkOk_by (by kernel_rfl)) (st_name 3) (fun _ _ _ _ _ => pg_name S_sources_of.nd (by rfl) (by first | exact Or.inl rfl | exact Or.inr rfl)) (fun _ _ _ _ _ => pts_no) (fun _ _ _ _ _ => di_int))
    (dss_cons (ds_for hp (by rfl) (dit_enum (by rfl) (u_enumerate v) (di_var (pv 0))) (dg_tup (by rfl) (dgs_cons (dg_name (pg_name S_sources_of.nd (by rfl) (by first | exact Or.inl rfl | exact Or.inr rfl))) (dgs_cons (dg_name (pg_name S_sources_of.nd (by rfl) (by first | exact Or.inl rfl | exact Or.inr rfl))) dgs_nil))) (tgt_tup (tgs_cons (tgt_name 2) (tgs_cons (tgt_name 3) tgs_nil))) (dss_one (ds_asg (DI.toE (di_var (pv 2))) (dg_sub (pv 1) (DE.frz (x_mod (DE.frz (x_add (di_var (pv 2)) (dp_var (pv 3)))) (DE.pk (b_len (by rfl) (u_len v) (db_one (dp_var (pv 0))))))) (hu_of hr)) tgt_sub)))
    (dss_one (ds_ret (de_var (pv 1))))))
def m_sources_of : Fm := mir 4 1 g_sources_of
theorem o_sources_of (v : Ev K mg base) : DefOk (MM K) P w K mg base 1 "sources_of" "sources_of" (top 21) [] (He.ga K "sources_of") ["offsets"] m_sources_of := by
  obtain ⟨fd, F⟩ := v.c.def_ 8 (d := d_sources_of) rfl
  exact ⟨fd, F, funD_mir (M := MM K) F S_sources_of (by decide) (fun cdv A outer s H E hr tk hp => b_sources_of v cdv A outer s H E hr tk hp)⟩
theorem f_sources_of (v : Ev K mg base) : TS.FnR P w K mg base (L2.CX P w) 1 (He.ga K "sources_of") (spD (MM K) m_sources_of) := by
  obtain ⟨fd, F, O⟩ := o_sources_of (P := P) (w := w) v
  exact fnR_raw (M := MM K) O (F.bindsN (ps := ["offsets"]) fun _ _ _ _ _ _ us hl => match us, hl with | [_], _ => rfl)
abbrev g_Plan___init___1 : FS := (sFldS 0 ix_own_offsets (frz (fOwn m_least_table (aCons (frz (fOwn m_checked_table (aCons (vI 1) (aCons (kD (.int 1)) aNil)))) aNil))))
abbrev g_Plan___init___2 : FS := (sFldS 0 ix_own_sources (frz (fOwn m_sources_of (aCons (fFld ix_own_offsets (vP 0)) aNil))))
def g_Plan___init__ : FS := (sSeq g_Plan___init___1 g_Plan___init___2)
theorem S_Plan___init__ : FnScope ["self", "offsets"] ["self", "offsets"] (defScope (inClass (top 22) 1)) := ⟨rfl, rfl, rfl, by decide +kernel, rfl, by decide +kernel, by decide +kernel⟩
theorem b_Plan___init__ (v : Ev K mg base) : BodyOk (MM K) P w K mg base 3 "Plan.__init__" (inClass (top 22) 1) (He.ma K (He.ga K "Plan") "__init__") ["self", "offsets"] g_Plan___init__ :=
  fun cdv A outer s H E hr tk hp => (dss_cons (ds_fld (F_own_offsets v) nm_lt (pv 0) (DE.frz (d_own (fun h => pe_own ((f_least_table v).mono (by decide)) hr tk (by rfl) (u_least_table v) (kp_least_table v) h) (da_cons (DE.frz (d_own (fun h => pe_own ((f_checked_table v).mono (by decide)) hr tk (by rfl) (u_checked_table v) (kp_checked_table v) h) (da_cons (di_var (pv 1)) (da_cons (Exists.elim (cint_ok (v.c.fact 34 (f := .cint "Plan" "SIGN" 1))) fun _ hu => di_cval (pe_glob (by rfl) (u_Plan v) (by rfl)) (cread_ok (v.c.fact 33 (f := .cread "Plan"))) hu fun F => rep_int' _) da_nil)))) da_nil))))
    (dss_one (ds_fld (F_own_sources v) nm_lt (pv 0) (DE.frz (d_own (fun h => pe_own ((f_sources_of v).mono (by decide)) hr tk (by rfl) (u_sources_of v) (kp_sources_of v) h) (da_cons (di_fld (F_own_offsets v) (dp_var (pv 0))) da_nil))))))
def m_Plan___init__ : Fm := mir 2 2 g_Plan___init__
theorem o_Plan___init__ (v : Ev K mg base) : DefOk (MM K) P w K mg base 4 "__init__" "Plan.__init__" (inClass (top 22) 1) [] (He.ma K (He.ga K "Plan") "__init__") ["self", "offsets"] m_Plan___init__ := by
  obtain ⟨fd, F⟩ := v.c.def_ 9 (d := d_Plan___init__) rfl
  exact ⟨fd, F, funD_mir (M := MM K) F S_Plan___init__ (by decide) (fun cdv A outer s H E hr tk hp => b_Plan___init__ v cdv A outer s H E hr tk hp)⟩
theorem f_Plan___init__ (v : Ev K mg base) : TS.FnR P w K mg base (L2.CX P w) 4 (He.ma K (He.ga K "Plan") "__init__") (spD (MM K) m_Plan___init__) := by
  obtain ⟨fd, F, O⟩ := o_Plan___init__ (P := P) (w := w) v
  exact fnR_raw (M := MM K) O (F.bindsN (ps := ["self", "offsets"]) fun _ _ _ _ _ _ us hl => match us, hl with | [_, _], _ => rfl)
abbrev g__law_great_1 : FS := (sAsg (toE (kD (.int 0))) (tName 2))
abbrev g__law_great_2_1 : FS := (sAsg (fBin gAdd (frz (fBin gMul (vI 2) (frz (fBin gPow (kD (.int 10)) (kD (.int 7)))))) (frz (fOwnIo m__law_draw 0 (aCons (frz (fBin gPow (kD (.int 10)) (kD (.int 7)))) aNil)))) (tName 2))
abbrev g__law_great_2B : FS := g__law_great_2_1
abbrev g__law_great_2 : FS := (sFor (itRg1 (vI 1)) (tName 3) g__law_great_2B)
abbrev g__law_great_3 : FS := (sRet (fBin gMul (vI 2) (frz (fOwnIo m__law_pick 0 (aCons (frz (fLst (aCons (kD (.int 1)) (aCons (fUnI (fun i => -i) (kD (.int 1))) aNil)))) aNil)))))
def g__law_great : FS := (sSeq g__law_great_1 (sSeq g__law_great_2 g__law_great_3))
theorem S__law_great : FnScope ["_law_pot_here", "_law_groups", "_law_number", "_law_turn"] ["_law_pot_here", "_law_groups"] (defScope (top 36)) := ⟨rfl, rfl, rfl, by decide +kernel, rfl, by decide +kernel, by decide +kernel⟩
theorem kp__law_great (v : Ev K mg base) : PySem.W.keepIn K (.ref (He.ga K "_law_great")) = true := (v.c.def_ 10 (d := d__law_great) rfl).elim fun _ F => F.kp
theorem b__law_great (v : Ev K mg base) : BodyOk (MM K) P w K mg base 2 "_law_great" (top 36) (He.ga K "_law_great") ["_law_pot_here", "_law_groups", "_law_number", "_law_turn"] g__law_great :=
  fun cdv A outer s H E hr tk hp => (dss_cons (ds_set (i := 2) S__law_great.nd (by rfl) (by first | exact Or.inl rfl | exact Or.inr rfl) (DI.toE di_int))
    (dss_cons (ds_for hp (by rfl) (dit_rg1 (by rfl) (u_range v) (di_var (pv 1))) (dg_name (pg_name S__law_great.nd (by rfl) (by first | exact Or.inl rfl | exact Or.inr rfl))) (tgt_name 3) (dss_one (ds_set (i := 2) S__law_great.nd (by rfl) (by first | exact Or.inl rfl | exact Or.inr rfl) (x_add (DE.frz (x_mul (di_var (pv 2)) (DE.pk (x_pow di_int (DI.pk di_int))))) (DE.pk (d_ownIo (fun h => pe_own ((f__law_draw v).mono (by decide)) hr tk (by rfl) (u__law_draw v) (kp__law_draw v) h) (pv 0) (da_cons (DE.frz (x_pow di_int (DI.pk di_int))) da_nil)))))))
    (dss_one (ds_ret (x_mul (di_var (pv 2)) (DE.pk (d_ownIo (fun h => pe_own ((f__law_pick v).mono (by decide)) hr tk (by rfl) (u__law_pick v) (kp__law_pick v) h) (pv 0) (da_cons (DE.frz (de_lst (da_cons di_int (da_cons (di_neg di_int) da_nil)))) da_nil))))))))
def m__law_great : Fm := mir 4 2 g__law_great
theorem o__law_great (v : Ev K mg base) : DefOk (MM K) P w K mg base 3 "_law_great" "_law_great" (top 36) [] (He.ga K "_law_great") ["_law_pot_here", "_law_groups"] m__law_great := by
  obtain ⟨fd, F⟩ := v.c.def_ 10 (d := d__law_great) rfl
  exact ⟨fd, F, funD_mir (M := MM K) F S__law_great (by decide) (fun cdv A outer s H E hr tk hp => b__law_great v cdv A outer s H E hr tk hp)⟩
theorem f__law_great (v : Ev K mg base) : TS.FnR P w K mg base (L2.CX P w) 3 (He.ga K "_law_great") (spD (MM K) m__law_great) := by
  obtain ⟨fd, F, O⟩ := o__law_great (P := P) (w := w) v
  exact fnR_raw (M := MM K) O (F.bindsN (ps := ["_law_pot_here", "_law_groups"]) fun _ _ _ _ _ _ us hl => match us, hl with | [_, _], _ => rfl)
abbrev g__law_at_1 : FS := (sRet (fBin gAdd (vI 1) (frz (fBin gIx (vI 0) (frz (fBin gMod (frz (fCal gInt (aOne (vP 1)))) (frz (fCal gLen (aOne (vP 0))))))))))
def g__law_at : FS := g__law_at_1
theorem S__law_at : FnScope ["_law_table_here", "_law_x"] ["_law_table_here", "_law_x"] (defScope (top 39)) := ⟨rfl, rfl, rfl, by decide +kernel, rfl, by decide +kernel, by decide +kernel⟩
theorem kp__law_at (v : Ev K mg base) : PySem.W.keepIn K (.ref (He.ga K "_law_at")) = true := (v.c.def_ 11 (d := d__law_at) rfl).elim fun _ F => F.kp
theorem b__law_at (v : Ev K mg base) : BodyOk (MM K) P w K mg base 0 "_law_at" (top 39) (He.ga K "_law_at") ["_law_table_here", "_law_x"] g__law_at :=
  fun cdv A outer s H E hr tk hp => (dss_one (ds_ret (x_add (di_var (pv 1)) (DE.pk (x_ix hr (di_var (pv 0)) (DE.pk (x_mod (DE.frz (b_int (by rfl) (u_int v) (db_one (dp_var (pv 1))))) (DE.pk (b_len (by rfl) (u_len v) (db_one (dp_var (pv 0))))))))))))
def m__law_at : Fm := mir 2 2 g__law_at
theorem o__law_at (v : Ev K mg base) : DefOk (MM K) P w K mg base 1 "_law_at" "_law_at" (top 39) [] (He.ga K "_law_at") ["_law_table_here", "_law_x"] m__law_at := by
  obtain ⟨fd, F⟩ := v.c.def_ 11 (d := d__law_at) rfl
  exact ⟨fd, F, funD_mir (M := MM K) F S__law_at (by decide) (fun cdv A outer s H E hr tk hp => b__law_at v cdv A outer s H E hr tk hp)⟩
theorem f__law_at (v : Ev K mg base) : TS.FnR P w K mg base (L2.CX P w) 1 (He.ga K "_law_at") (spD (MM K) m__law_at) := by
  obtain ⟨fd, F, O⟩ := o__law_at (P := P) (w := w) v
  exact fnR_raw (M := MM K) O (F.bindsN (ps := ["_law_table_here", "_law_x"]) fun _ _ _ _ _ _ us hl => match us, hl with | [_, _], _ => rfl)
abbrev g__law_found_1 : FS := (sAsg (fCal gMax (aOne (frz (fLc (stName 5) [5] (itSeq (vI 0)) tTrue (frz (fCal gAbs (aOne (vP 5)))))))) (tName 3))
abbrev g__law_found_2a_1 : FS := (sRet (fLc (stName 4) [4] (itRg2W (frz (fBin gSub (vI 1) (vP 3))) (vI 1)) (fTst (fBin gGe (frz (fOwn m__law_at (aCons (vI 0) (aCons (vI 4) aNil)))) (vP 1))) (vI 4)))
abbrev g__law_found_2 : FS := (sIf (fTst (fBin gEq (vI 2) (kD (.int 1)))) g__law_found_2a_1 sNil)
abbrev g__law_found_3 : FS := (sRet (fLc (stName 4) [4] (itRg2W (vI 1) (frz (fBin gAdd (vI 1) (vP 3)))) (fTst (fBin gLt (frz (fOwn m__law_at (aCons (vI 0) (aCons (vI 4) aNil)))) (vP 1))) (vI 4)))
def g__law_found : FS := (sSeq g__law_found_1 (sSeq g__law_found_2 g__law_found_3))
theorem S__law_found : FnScope ["_law_table_here", "_law_gate", "_law_sign", "_law_wide", "_law_x", "_law_offset"] ["_law_table_here", "_law_gate", "_law_sign"] (defScope (top 42)) := ⟨rfl, rfl, rfl, by decide +kernel, rfl, by decide +kernel, by decide +kernel⟩
theorem kp__law_found (v : Ev K mg base) : PySem.W.keepIn K (.ref (He.ga K "_law_found")) = true := (v.c.def_ 12 (d := d__law_found) rfl).elim fun _ F => F.kp
theorem b__law_found (v : Ev K mg base) : BodyOk (MM K) P w K mg base 1 "_law_found" (top 42) (He.ga K "_law_found") ["_law_table_here", "_law_gate", "_law_sign", "_law_wide", "_law_x", "_law_offset"] g__law_found :=
  fun cdv A outer s H E hr tk hp => (dss_cons (ds_set (i := 3) S__law_found.nd (by rfl) (by first | exact Or.inl rfl | exact Or.inr rfl) (b_max (by rfl) (by rfl) (u_max v) (db_one (DE.pk (de_lc (own := [("_law_offset", 5)]) (by rfl) (by rfl) S__law_found.nd (dit_list (di_var (pv 0))) (blkOk_by (by kernel_rfl)) (st_name 5) (fun _ _ _ _ _ => pg_name S__law_found.nd (by rfl) (by first | exact Or.inl rfl | exact Or.inr rfl)) (fun _ _ _ _ _ => pts_no) (fun _ _ _ _ _ => (DE.frz (b_abs (by rfl) (u_abs v) (db_one (dp_var (pv 5)))))))))))
    (dss_cons (ds_if (t_eq hr (di_var (pv 2)) (DI.pk di_int)) (dss_one (ds_ret (de_lc (own := [("_law_x", 4)]) (by rfl) (by rfl) S__law_found.nd (dit_rg2W (by rfl) (u_range v) (DE.frz (x_sub (di_var (pv 1)) (dp_var (pv 3)))) (di_var (pv 1))) (blkOk_by (by kernel_rfl)) (st_name 4) (fun _ _ _ _ _ => pg_name S__law_found.nd (by rfl) (by first | exact Or.inl rfl | exact Or.inr rfl)) (fun _ _ _ _ _ => pts_if (t_ge (DE.frz (d_own (fun h => pe_own ((f__law_at v).mono (by decide)) hr TS.takes0 (by rfl) (u__law_at v) (kp__law_at v) h) (da_cons (di_var (pv 0)) (da_cons (di_var (pv 4)) da_nil)))) (dp_var (pv 1)))) (fun _ _ _ _ _ => (di_var (pv 4)))))) dss_nil)
    (dss_one (ds_ret (de_lc (own := [("_law_x", 4)]) (by rfl) (by rfl) S__law_found.nd (dit_rg2W (by rfl) (u_range v) (di_var (pv 1)) (DE.frz (x_add (di_var (pv 1)) (dp_var (pv 3))))) (blkOk_by (by kernel_rfl)) (st_name 4) (fun _ _ _ _ _ => pg_name S__law_found.nd (by rfl) (by first | exact Or.inl rfl | exact Or.inr rfl)) (fun _ _ _ _ _ => pts_if (t_lt (DE.frz (d_own (fun h => pe_own ((f__law_at v).mono (by decide)) hr TS.takes0 (by rfl) (u__law_at v) (kp__law_at v) h) (da_cons (di_var (pv 0)) (da_cons (di_var (pv 4)) da_nil)))) (dp_var (pv 1)))) (fun _ _ _ _ _ => (di_var (pv 4))))))))
def m__law_found : Fm := mir 6 3 g__law_found
theorem o__law_found (v : Ev K mg base) : DefOk (MM K) P w K mg base 2 "_law_found" "_law_found" (top 42) [] (He.ga K "_law_found") ["_law_table_here", "_law_gate", "_law_sign"] m__law_found := by
  obtain ⟨fd, F⟩ := v.c.def_ 12 (d := d__law_found) rfl
  exact ⟨fd, F, funD_mir (M := MM K) F S__law_found (by decide) (fun cdv A outer s H E hr tk hp => b__law_found v cdv A outer s H E hr tk hp)⟩
theorem f__law_found (v : Ev K mg base) : TS.FnR P w K mg base (L2.CX P w) 2 (He.ga K "_law_found") (spD (MM K) m__law_found) := by
  obtain ⟨fd, F, O⟩ := o__law_found (P := P) (w := w) v
  exact fnR_raw (M := MM K) O (F.bindsN (ps := ["_law_table_here", "_law_gate", "_law_sign"]) fun _ _ _ _ _ _ us hl => match us, hl with | [_, _, _], _ => rfl)
theorem ex_InvalidInteger (v : Ev K mg base) : OxC K (He.ga K "InvalidInteger") ∧ XqC K (He.ga K "InvalidInteger") ∧ PySem.W.findIn K (.ref (He.ga K "InvalidInteger")) "__init__" = some (some (.ref (He.ma K (He.ga K "InvalidInteger") "__init__"))) ∧ PySem.W.typeIn K (.ref (He.ma K (He.ga K "InvalidInteger") "__init__")) = some (.type "function") := exc_ok Bas.ve (v.c.fact 43 (f := .exc "InvalidInteger" "ValueError"))
theorem S_InvalidInteger___init__ : FnScope ["self", "value"] ["self", "value"] (defScope (inClass (top 3) 0)) := ⟨rfl, rfl, rfl, by decide +kernel, rfl, by decide +kernel, by decide +kernel⟩
theorem xd_InvalidInteger (v : Ev K mg base) : ∃ fd, TS.FnOk P w K mg base (L2.CX P w) 1 (He.ma K (He.ga K "InvalidInteger") "__init__") fd ["self", "value"] (spX (He.ga K "InvalidInteger") ["value"]) ∧ Binds K fd ["self", "value"] [] := by
  obtain ⟨fd, F⟩ := v.c.def_ 13 (d := d_InvalidInteger___init__) rfl
  exact ⟨fd, funD_ini F S_InvalidInteger___init__ (by decide) (fun cdv A outer s H E => (init_body (N := []) (sp0 := ()) (ex_InvalidInteger v).1 (He.noat_ok (K := K) (v.c.fact 44 (f := .he (.noat "InvalidInteger" "value")))) rfl (pv 0) (pv 1) (inis_nil rfl))), F.bindsN (ps := ["self", "value"]) fun _ _ _ _ _ _ us hl => match us, hl with | [_, _], _ => rfl⟩
theorem ex_TooMany (v : Ev K mg base) : OxC K (He.ga K "TooMany") ∧ XqC K (He.ga K "TooMany") ∧ PySem.W.findIn K (.ref (He.ga K "TooMany")) "__init__" = some (some (.ref (He.ma K (He.ga K "TooMany") "__init__"))) ∧ PySem.W.typeIn K (.ref (He.ma K (He.ga K "TooMany") "__init__")) = some (.type "function") := exc_ok Bas.ar (v.c.fact 45 (f := .exc "TooMany" "ArithmeticError"))
theorem S_TooMany___init__ : FnScope ["self", "many"] ["self", "many"] (defScope (inClass (top 7) 0)) := ⟨rfl, rfl, rfl, by decide +kernel, rfl, by decide +kernel, by decide +kernel⟩
theorem xd_TooMany (v : Ev K mg base) : ∃ fd, TS.FnOk P w K mg base (L2.CX P w) 1 (He.ma K (He.ga K "TooMany") "__init__") fd ["self", "many"] (spX (He.ga K "TooMany") ["many"]) ∧ Binds K fd ["self", "many"] [] := by
  obtain ⟨fd, F⟩ := v.c.def_ 14 (d := d_TooMany___init__) rfl
  exact ⟨fd, funD_ini F S_TooMany___init__ (by decide) (fun cdv A outer s H E => (init_body (N := []) (sp0 := ()) (ex_TooMany v).1 (He.noat_ok (K := K) (v.c.fact 46 (f := .he (.noat "TooMany" "many")))) rfl (pv 0) (pv 1) (inis_nil rfl))), F.bindsN (ps := ["self", "many"]) fun _ _ _ _ _ _ us hl => match us, hl with | [_, _], _ => rfl⟩
def xm_TooMany : Nat → Option Bool := fun n => match n with
  | 100 => some false
  | 102 => some false
  | 115 => some false
  | 116 => some true
  | _ => none
theorem xm_TooMany_ok (v : Ev K mg base) : ∀ k b C, xm_TooMany k = some b → (MM K).G k = some C → PySem.W.exmOne K (.ref C) (.ref (He.ga K "TooMany")) = some b := by
  intro k b C h hG
  unfold xm_TooMany at h
  split at h
  · cases h
    cases hG
    exact exm_ok (v.c.fact 47 (f := .exm "InvalidInteger" "TooMany" false))
  · cases h
    cases hG
    exact exm_ok (v.c.fact 48 (f := .exm "InvalidTable" "TooMany" false))
  · cases h
    cases hG
    exact exm_ok (v.c.fact 49 (f := .exm "TooLong" "TooMany" false))
  · cases h
    cases hG
    exact exm_ok (v.c.fact 50 (f := .exm "TooMany" "TooMany" true))
  · cases h
def xi_TooLong : Nat → Option Bool := fun n => match n with
  | 100 => some false
  | 102 => some false
  | 115 => some true
  | 116 => some false
  | _ => none
theorem xi_TooLong_ok (v : Ev K mg base) : ∀ k b C, xi_TooLong k = some b → (MM K).G k = some C → XqC K C ∧ PySem.W.kitOne K (.ref C) (.ref (He.ga K "TooLong")) = some b := by
  intro k b C h hG
  unfold xi_TooLong at h
  split at h
  · cases h
    cases hG
    exact ⟨(ex_InvalidInteger v).2.1, (kit_ok (v.c.fact 51 (f := .kit "InvalidInteger" "TooLong" false)))⟩
  · cases h
    cases hG
    exact ⟨(ex_InvalidTable v).2.1, (kit_ok (v.c.fact 52 (f := .kit "InvalidTable" "TooLong" false)))⟩
  · cases h
    cases hG
    exact ⟨(ex_TooLong v).2.1, (kit_ok (v.c.fact 53 (f := .kit "TooLong" "TooLong" true)))⟩
  · cases h
    cases hG
    exact ⟨(ex_TooMany v).2.1, (kit_ok (v.c.fact 54 (f := .kit "TooMany" "TooLong" false)))⟩
  · cases h
def xi_ArithmeticError : Nat → Option Bool := fun n => match n with
  | 100 => some false
  | 102 => some false
  | 115 => some true
  | 116 => some true
  | _ => none
theorem xi_ArithmeticError_ok (v : Ev K mg base) : ∀ k b C, xi_ArithmeticError k = some b → (MM K).G k = some C → XqC K C ∧ PySem.W.kitOne K (.ref C) (.type "ArithmeticError") = some b := by
  intro k b C h hG
  unfold xi_ArithmeticError at h
  split at h
  · cases h
    cases hG
    exact ⟨(ex_InvalidInteger v).2.1, (kitC_ok (v.c.fact 55 (f := .kitC "InvalidInteger" "ArithmeticError" false)))⟩
  · cases h
    cases hG
    exact ⟨(ex_InvalidTable v).2.1, (kitC_ok (v.c.fact 56 (f := .kitC "InvalidTable" "ArithmeticError" false)))⟩
  · cases h
    cases hG
    exact ⟨(ex_TooLong v).2.1, (kitC_ok (v.c.fact 57 (f := .kitC "TooLong" "ArithmeticError" true)))⟩
  · cases h
    cases hG
    exact ⟨(ex_TooMany v).2.1, (kitC_ok (v.c.fact 58 (f := .kitC "TooMany" "ArithmeticError" true)))⟩
  · cases h
def xi_LimitError : Nat → Option Bool := fun n => match n with
  | 100 => some false
  | 102 => some false
  | 115 => some true
  | 116 => some true
  | _ => none
theorem xi_LimitError_ok (v : Ev K mg base) : ∀ k b C, xi_LimitError k = some b → (MM K).G k = some C → XqC K C ∧ PySem.W.kitOne K (.ref C) (.ref (He.ga K "LimitError")) = some b := by
  intro k b C h hG
  unfold xi_LimitError at h
  split at h
  · cases h
    cases hG
    exact ⟨(ex_InvalidInteger v).2.1, (kit_ok (v.c.fact 60 (f := .kit "InvalidInteger" "LimitError" false)))⟩
  · cases h
    cases hG
    exact ⟨(ex_InvalidTable v).2.1, (kit_ok (v.c.fact 61 (f := .kit "InvalidTable" "LimitError" false)))⟩
  · cases h
    cases hG
    exact ⟨(ex_TooLong v).2.1, (kit_ok (v.c.fact 62 (f := .kit "TooLong" "LimitError" true)))⟩
  · cases h
    cases hG
    exact ⟨(ex_TooMany v).2.1, (kit_ok (v.c.fact 63 (f := .kit "TooMany" "LimitError" true)))⟩
  · cases h
def xf_many : Nat → Option Nat := fun n => match n with
  | 116 => some 0
  | _ => none
theorem xf_many_ok (v : Ev K mg base) : ∀ k j C, xf_many k = some j → (MM K).G k = some C → XqC K C ∧ PySem.W.findIn K (.ref C) "many" = some none ∧ ((MM K).nm k)[j]? = some "many" ∧ ("many" : Str) ∉ ((MM K).nm k).take j := by
  intro k j C h hG
  unfold xf_many at h
  split at h
  · cases h
    cases hG
    exact ⟨(ex_TooMany v).2.1, He.noat_ok (v.c.fact 46 (f := .he (.noat "TooMany" "many"))), rfl, show ("many" : Str) ∉ (["many"] : List Str).take 0 from by decide +kernel⟩
  · cases h
abbrev g__law_told_1 (res : Res (List D)) : FS := (sAsg (fLst (aCons (kD (.str "other")) aNil)) (tName 1))
abbrev g__law_told_2 (res : Res (List D)) : FS := (sTryN 1 2 (fNst (fxCons (toE (kD (.str "told"))) (fxCons (fResO 0 res) fxNil))) (hCons xm_TooMany (fun y => (sSeq (sAsg (fAndV (xIs xi_LimitError y) (fAndV (xIs xi_ArithmeticError y) (toE (fNotV (xIs xi_TooLong y))))) (tName 3)) (sAsg (fLst (aCons (kD (.str "many")) (aCons (fReprD (xFldT xf_many y)) (aCons (vI 3) aNil)))) (tName 1)))) hNil))
def g__law_told (res : Res (List D)) : FS := (sSeq (g__law_told_1 res) (g__law_told_2 res))
theorem S__law_told : FnScope ["_law_call", "_law_told_here", "e", "_law_is_alone"] ["_law_call"] (defScope (top 43)) := ⟨rfl, rfl, rfl, by decide +kernel, rfl, by decide +kernel, by decide +kernel⟩
theorem kp__law_told (v : Ev K mg base) : PySem.W.keepIn K (.ref (He.ga K "_law_told")) = true := (v.c.def_ 15 (d := d__law_told) rfl).elim fun _ F => F.kp
theorem b__law_told (v : Ev K mg base) {L : Lm} (res : Res (List D)) (cdv : Value) (A : Around) (outer : List Env) (s : Shared) (H : Hp) (E : XK) (hr : TS.Room 0 (A.deeper (PyProof.Rows.envOfC "_law_told" (defScope (top 43)) s.heap.objs.size (He.ga K "_law_told") cdv))) (tk : Takes (cxOf (L2.CX P w) P w K mg base ["_law_call", "_law_told_here", "e", "_law_is_alone"] "_law_told" (defScope (top 43)) (He.ga K "_law_told") cdv A outer s H E) (fun cls d _ H => E cls d H))
    (hp : PassesOwn (model P w) (A.deeper (PyProof.Rows.envOfC "_law_told" (defScope (top 43)) s.heap.objs.size (He.ga K "_law_told") cdv)) (PyProof.Rows.envOfC "_law_told" (defScope (top 43)) s.heap.objs.size (He.ga K "_law_told") cdv) (cxOf (L2.CX P w) P w K mg base ["_law_call", "_law_told_here", "e", "_law_is_alone"] "_law_told" (defScope (top 43)) (He.ga K "_law_told") cdv A outer s H E).xe) (act : ∀ (W : WX) (pn : List (Addr × Obj)) (xe : Value → Shared → Prop) (p1 p2 : Pos), Takes ((cxOf (L2.CX P w) P w K mg base ["_law_call", "_law_told_here", "e", "_law_is_alone"] "_law_told" (defScope (top 43)) (He.ga K "_law_told") cdv A outer s H E).tr pn xe) W → DE ((MM K).wl L) W ((cxOf (L2.CX P w) P w K mg base ["_law_call", "_law_told_here", "e", "_law_is_alone"] "_law_told" (defScope (top 43)) (He.ga K "_law_told") cdv A outer s H E).tr pn xe) (.Call (.Name "_law_call" p1) [] [] p2) (fResO 0 res)) : DSs ((MM K).wl L) (fun cls d _ H => E cls d H) (cxOf (L2.CX P w) P w K mg base ["_law_call", "_law_told_here", "e", "_law_is_alone"] "_law_told" (defScope (top 43)) (He.ga K "_law_told") cdv A outer s H E) (defBody (top 43)) (g__law_told res) :=
  (dss_cons (ds_set (i := 1) S__law_told.nd (by rfl) (by first | exact Or.inl rfl | exact Or.inr rfl) (de_lst (da_cons di_str da_nil)))
    (dss_tryN (by rfl) (by rfl) S__law_told.nd (by rfl) (by rfl) tk (by rfl) (by first | exact Or.inl rfl | exact Or.inr rfl) (by first | exact Or.inl rfl | exact Or.inr (Or.inl rfl) | exact Or.inr (Or.inr rfl)) (fun W pn xe tk hp => (de_nst (dx_cons (DI.toE di_str) (dx_cons (act _ _ _ _ _ tk) dx_nil)))) (ClA.cons (tab := xm_TooMany) ⟨by rfl, by decide, Or.inl (u_TooMany v)⟩ (xm_TooMany_ok v) (fun a oe cls d pn y hz hf => (zs_cons (z_set (by show 3 ≠ 2; decide) S__law_told.nd (by rfl) (by first | exact Or.inl rfl | exact Or.inr rfl) (z_and (z_isi (xi_LimitError_ok v) hz hf (by rfl) (u_isinstance v) (pv 2) (pe_glob (by rfl) (u_LimitError v) (by rfl)) (ClsV.own _)) (z_and (z_isi (xi_ArithmeticError_ok v) hz hf (by rfl) (u_isinstance v) (pv 2) (k_ty PyProof.Rows.Boot.«ArithmeticError» (by rfl) (u_ArithmeticError v)) (ClsV.ty "ArithmeticError")) (z_one (z_toE (z_not (z_isi (xi_TooLong_ok v) hz hf (by rfl) (u_isinstance v) (pv 2) (pe_glob (by rfl) (u_TooLong v) (by rfl)) (ClsV.own _)))))))) (zs_one (z_set (by show 1 ≠ 2; decide) S__law_told.nd (by rfl) (by first | exact Or.inl rfl | exact Or.inr rfl) (z_lst (z_cons (z_i di_str) (z_cons (z_reprX (smd_ok (v.c.fact 65 (f := .smd))) hr (by rfl) (u_repr v) (z_fld (xf_many_ok v) hz hf (pv 2))) (z_cons (z_i (di_var (pv 3))) z_nil)))))))) ClA.nil)))
def m__law_told (res : Res (List D)) : Fm := mir 4 1 (g__law_told res)
theorem l__law_told (v : Ev K mg base) : ∃ fd, LamOkO P w (MM K) K mg base 0 "_law_told" (He.ga K "_law_told") m__law_told "_law_told" (defArgs (top 43)) (defBody (top 43)) (defScope (top 43)) fd "_law_call" ["_law_call", "_law_told_here", "e", "_law_is_alone"] g__law_told := by
  obtain ⟨fd, F⟩ := v.c.def_ 15 (d := d__law_told) rfl
  exact ⟨fd, F, kp__law_told v, S__law_told, F.bindsN (ps := ["_law_call"]) (fun _ _ _ _ _ _ us hl => match us, hl with | [_], _ => rfl), fun _ => rfl, fun L res cdv A outer s H E hr tk hp act => b__law_told v res cdv A outer s H E hr tk hp act⟩
abbrev g_require_integer_1a_1 : FS := (sRaise 100 1 (aCons (vI 0) aNil))
abbrev g_require_integer_1 : FS := (sIf (fOr (fNot (fTst (fOwn m_is_integer (aCons (vI 0) aNil)))) (fAnd (fTst (fBin gNotN (vI 1) (kD .non))) (fTst (fBin gLt (vI 0) (vP 1))))) g_require_integer_1a_1 sNil)
def g_require_integer : FS := g_require_integer_1
theorem S_require_integer : FnScope ["value", "least"] ["value", "least"] (defScope (top 10)) := ⟨rfl, rfl, rfl, by decide +kernel, rfl, by decide +kernel, by decide +kernel⟩
theorem kp_require_integer (v : Ev K mg base) : PySem.W.keepIn K (.ref (He.ga K "require_integer")) = true := (v.c.def_ 16 (d := d_require_integer) rfl).elim fun _ F => F.kp
theorem b_require_integer (v : Ev K mg base) : BodyOk (MM K) P w K mg base 2 "require_integer" (top 10) (He.ga K "require_integer") ["value", "least"] g_require_integer :=
  fun cdv A outer s H E hr tk hp => (dss_one (ds_if (DW.pt (dw_or (dt_not (dt_val (d_own (fun h => pe_own ((f_is_integer v).mono (by decide)) hr tk (by rfl) (u_is_integer v) (kp_is_integer v) h) (da_cons (di_var (pv 0)) da_nil)))) (dw_or1 (DW.pt (dw_and (t_notN (di_var (pv 1)) (DI.pk di_non)) (dw_and1 (t_lt (di_var (pv 0)) (dp_var (pv 1))))))))) (dss_one (Exists.elim (xd_InvalidInteger (P := P) (w := w) v) fun _ h => ds_raise (n := 100) (ns := ["value"]) rfl rfl rfl (ex_InvalidInteger v).1 (ex_InvalidInteger v).2.2.1 (ex_InvalidInteger v).2.2.2 h.1 hr (by decide) (by decide) h.2 (by rfl) tk (by rfl) (u_InvalidInteger v) (da_cons (di_var (pv 0)) da_nil))) dss_nil))
def m_require_integer : Fm := mir 2 2 g_require_integer
theorem o_require_integer (v : Ev K mg base) : DefOk (MM K) P w K mg base 3 "require_integer" "require_integer" (top 10) [V.non] (He.ga K "require_integer") ["value", "least"] m_require_integer := by
  obtain ⟨fd, F⟩ := v.c.def_ 16 (d := d_require_integer) rfl
  exact ⟨fd, F, funD_mir (M := MM K) F S_require_integer (by decide) (fun cdv A outer s H E hr tk hp => b_require_integer v cdv A outer s H E hr tk hp)⟩
theorem f_require_integer (v : Ev K mg base) : TS.FnR P w K mg base (L2.CX P w) 3 (He.ga K "require_integer") (spD (MM K) m_require_integer) := by
  obtain ⟨fd, F, O⟩ := o_require_integer (P := P) (w := w) v
  obtain ⟨ds, hv, hb⟩ := FunD.binds1 (ps := ["value", "least"]) F 2 1 (by intro z; cases z) rfl (fun T kV doc pm an cdv ct us its h1 h2 => match us, its, h1, h2 with | [_, _], [_], _, _ => ⟨_, rfl, rfl⟩)
  cases hv
  exact fnR_raw (M := MM K) O hb
def m_require_integer_d1 : Fm := fmDfl m_require_integer [.non]
theorem f_require_integer_d1 (v : Ev K mg base) : TS.FnR P w K mg base (L2.CX P w) 3 (He.ga K "require_integer") (spD (MM K) m_require_integer_d1) := by
  obtain ⟨fd, F, O⟩ := o_require_integer (P := P) (w := w) v
  obtain ⟨ds, hv, hb⟩ := FunD.binds1 (ps := ["value", "least"]) F 1 0 (by intro z; cases z) rfl (fun T kV doc pm an cdv ct us its h1 h2 => match us, its, h1, h2 with | [_], [_], _, _ => ⟨_, rfl, rfl⟩)
  exact fnR_dfl (M := MM K) (fun F => (reps_cons rep_non' reps_nil)) (O.raw hb hv)
abbrev g_Plan_offsets_1 : FS := (sRet (fCal gList (aOne (fFld ix_own_offsets (vP 0)))))
def g_Plan_offsets : FS := g_Plan_offsets_1
theorem S_Plan_offsets : FnScope ["self"] ["self"] (defScope (inClass (top 22) 7)) := ⟨rfl, rfl, rfl, by decide +kernel, rfl, by decide +kernel, by decide +kernel⟩
theorem b_Plan_offsets (v : Ev K mg base) : BodyOk (MM K) P w K mg base 0 "Plan.offsets" (inClass (top 22) 7) (He.ma K (He.ga K "Plan") "offsets") ["self"] g_Plan_offsets :=
  fun cdv A outer s H E hr tk hp => (dss_one (ds_ret (b_list (by rfl) (u_list v) (db_one (DI.pk (di_fld (F_own_offsets v) (dp_var (pv 0))))))))
def m_Plan_offsets : Fm := mir 1 1 g_Plan_offsets
theorem o_Plan_offsets (v : Ev K mg base) : DefOk (MM K) P w K mg base 1 "offsets" "Plan.offsets" (inClass (top 22) 7) [] (He.ma K (He.ga K "Plan") "offsets") ["self"] m_Plan_offsets := by
  obtain ⟨fd, F⟩ := v.c.def_ 17 (d := d_Plan_offsets) rfl
  exact ⟨fd, F, funD_mir (M := MM K) F S_Plan_offsets (by decide) (fun cdv A outer s H E hr tk hp => b_Plan_offsets v cdv A outer s H E hr tk hp)⟩
theorem f_Plan_offsets (v : Ev K mg base) : TS.FnR P w K mg base (L2.CX P w) 1 (He.ma K (He.ga K "Plan") "offsets") (spD (MM K) m_Plan_offsets) := by
  obtain ⟨fd, F, O⟩ := o_Plan_offsets (P := P) (w := w) v
  exact fnR_raw (M := MM K) O (F.bindsN (ps := ["self"]) fun _ _ _ _ _ _ us hl => match us, hl with | [_], _ => rfl)
def tab_offsets : Nat → Option Fm := fun n => match n with
  | 0 => some m_Plan_offsets
  | _ => none
theorem T_offsets (v : Ev K mg base) : ∀ n f, tab_offsets n = some f → ∃ C g, (MM K).G n = some C ∧ Cls K C ∧ Meth K C "offsets" g ∧ TS.FnR P w K mg base (L2.CX P w) 1 g (spD (MM K) f) := by
  intro n f h
  unfold tab_offsets at h
  split at h
  · cases h
    exact ⟨_, _, rfl, He.cls_ok (v.c.fact 11 (f := .he (.cls "Plan"))), He.meth_ok (v.c.fact 70 (f := .he (.meth "Plan" "offsets"))), (f_Plan_offsets v).mono (by decide)⟩
  · cases h
theorem n_offsets : ∀ n f, tab_offsets n = some f → (("offsets" : Str) ∉ (MM K).nm n) := by
  intro n f h
  unfold tab_offsets at h
  split at h
  · show ("offsets" : Str) ∉ (["own_offsets", "own_sources"] : List Str)
    decide +kernel
  · cases h
abbrev g_crossing_ranges_1 : FS := (sAsg (fLst aNil) (tName 3))
abbrev g_crossing_ranges_2_1a_1 : FS := (sExpr (toE (fMut 3 mAppend (aCons (fTup (aCons (vI 4) (aCons (frz (fCal gMin (aCons (vI 1) (aCons (frz (fBin gSub (vI 1) (vP 5))) aNil)))) (aCons (frz (fCal gMax (aCons (vI 1) (aCons (frz (fBin gSub (vI 1) (vP 5))) aNil)))) aNil)))) aNil))))
abbrev g_crossing_ranges_2_1 : FS := (sIf (fTst (fBin gGt (frz (fBin gMul (vI 5) (vP 2))) (kD (.int 0)))) g_crossing_ranges_2_1a_1 sNil)
abbrev g_crossing_ranges_2B : FS := g_crossing_ranges_2_1
abbrev g_crossing_ranges_2 : FS := (sFor (itEnum (frz (fMeth tab_offsets (vI 0) aNil))) (tTup 2 (tsCons (tName 4) (tsCons (tName 5) tsNil))) g_crossing_ranges_2B)
abbrev g_crossing_ranges_3 : FS := (sRet (vR 3))
def g_crossing_ranges : FS := (sSeq g_crossing_ranges_1 (sSeq g_crossing_ranges_2 g_crossing_ranges_3))
theorem S_crossing_ranges : FnScope ["plan", "cut", "sign", "found", "remainder", "offset"] ["plan", "cut", "sign"] (defScope (top 26)) := ⟨rfl, rfl, rfl, by decide +kernel, rfl, by decide +kernel, by decide +kernel⟩
theorem kp_crossing_ranges (v : Ev K mg base) : PySem.W.keepIn K (.ref (He.ga K "crossing_ranges")) = true := (v.c.def_ 18 (d := d_crossing_ranges) rfl).elim fun _ F => F.kp
theorem b_crossing_ranges (v : Ev K mg base) : BodyOk (MM K) P w K mg base 1 "crossing_ranges" (top 26) (He.ga K "crossing_ranges") ["plan", "cut", "sign", "found", "remainder", "offset"] g_crossing_ranges :=
  fun cdv A outer s H E hr tk hp => (dss_cons (ds_set (i := 3) S_crossing_ranges.nd (by rfl) (by first | exact Or.inl rfl | exact Or.inr rfl) (de_lst da_nil))
    (dss_cons (ds_for hp (by rfl) (dit_enum (by rfl) (u_enumerate v) (DE.frz (d_meth0 (fun h => pe_methD0 h (methOk_of (T_offsets v)) (hr.mono (by decide : 1 ≤ 1)) tk) n_offsets (di_var (pv 0))))) (dg_tup (by rfl) (dgs_cons (dg_name (pg_name S_crossing_ranges.nd (by rfl) (by first | exact Or.inl rfl | exact Or.inr rfl))) (dgs_cons (dg_name (pg_name S_crossing_ranges.nd (by rfl) (by first | exact Or.inl rfl | exact Or.inr rfl))) dgs_nil))) (tgt_tup (tgs_cons (tgt_name 4) (tgs_cons (tgt_name 5) tgs_nil))) (dss_one (ds_if (t_gt (DE.frz (x_mul (di_var (pv 5)) (dp_var (pv 2)))) (DI.pk di_int)) (dss_one (ds_expr (DI.toE (m_append (pv 3) (da_cons (di_tup (da_cons (di_var (pv 4)) (da_cons (DE.frz (b_min (by rfl) (by rfl) (u_min v) (DA.b (da_cons (di_var (pv 1)) (da_cons (DE.frz (x_sub (di_var (pv 1)) (dp_var (pv 5)))) da_nil))))) (da_cons (DE.frz (b_max (by rfl) (by rfl) (u_max v) (DA.b (da_cons (di_var (pv 1)) (da_cons (DE.frz (x_sub (di_var (pv 1)) (dp_var (pv 5)))) da_nil))))) da_nil)))) da_nil))))) dss_nil)))
    (dss_one (ds_ret (de_var (pv 3))))))
def m_crossing_ranges : Fm := mir 6 3 g_crossing_ranges
theorem o_crossing_ranges (v : Ev K mg base) : DefOk (MM K) P w K mg base 2 "crossing_ranges" "crossing_ranges" (top 26) [] (He.ga K "crossing_ranges") ["plan", "cut", "sign"] m_crossing_ranges := by
  obtain ⟨fd, F⟩ := v.c.def_ 18 (d := d_crossing_ranges) rfl
  exact ⟨fd, F, funD_mir (M := MM K) F S_crossing_ranges (by decide) (fun cdv A outer s H E hr tk hp => b_crossing_ranges v cdv A outer s H E hr tk hp)⟩
theorem f_crossing_ranges (v : Ev K mg base) : TS.FnR P w K mg base (L2.CX P w) 2 (He.ga K "crossing_ranges") (spD (MM K) m_crossing_ranges) := by
  obtain ⟨fd, F, O⟩ := o_crossing_ranges (P := P) (w := w) v
  exact fnR_raw (M := MM K) O (F.bindsN (ps := ["plan", "cut", "sign"]) fun _ _ _ _ _ _ us hl => match us, hl with | [_, _, _], _ => rfl)
abbrev g_count_with_1 : FS := (sRet (fBin gSub (frz (fBin gFdiv (frz (fBin gSub (vI 0) (vP 2))) (vP 1))) (frz (fBin gFdiv (frz (fBin gSub (vI 0) (vP 3))) (vP 1)))))
def g_count_with : FS := g_count_with_1
theorem S_count_with : FnScope ["remainder", "modulus", "first", "last"] ["remainder", "modulus", "first", "last"] (defScope (top 24)) := ⟨rfl, rfl, rfl, by decide +kernel, rfl, by decide +kernel, by decide +kernel⟩
theorem kp_count_with (v : Ev K mg base) : PySem.W.keepIn K (.ref (He.ga K "count_with")) = true := (v.c.def_ 19 (d := d_count_with) rfl).elim fun _ F => F.kp
theorem b_count_with (v : Ev K mg base) : BodyOk (MM K) P w K mg base 0 "count_with" (top 24) (He.ga K "count_with") ["remainder", "modulus", "first", "last"] g_count_with :=
  fun cdv A outer s H E hr tk hp => (dss_one (ds_ret (x_sub (DE.frz (x_fdiv (DE.frz (x_sub (di_var (pv 0)) (dp_var (pv 2)))) (dp_var (pv 1)))) (DE.pk (x_fdiv (DE.frz (x_sub (di_var (pv 0)) (dp_var (pv 3)))) (dp_var (pv 1)))))))
def m_count_with : Fm := mir 4 4 g_count_with
theorem o_count_with (v : Ev K mg base) : DefOk (MM K) P w K mg base 1 "count_with" "count_with" (top 24) [] (He.ga K "count_with") ["remainder", "modulus", "first", "last"] m_count_with := by
  obtain ⟨fd, F⟩ := v.c.def_ 19 (d := d_count_with) rfl
  exact ⟨fd, F, funD_mir (M := MM K) F S_count_with (by decide) (fun cdv A outer s H E hr tk hp => b_count_with v cdv A outer s H E hr tk hp)⟩
theorem f_count_with (v : Ev K mg base) : TS.FnR P w K mg base (L2.CX P w) 1 (He.ga K "count_with") (spD (MM K) m_count_with) := by
  obtain ⟨fd, F, O⟩ := o_count_with (P := P) (w := w) v
  exact fnR_raw (M := MM K) O (F.bindsN (ps := ["remainder", "modulus", "first", "last"]) fun _ _ _ _ _ _ us hl => match us, hl with | [_, _, _, _], _ => rfl)
abbrev g_Plan_period_1 : FS := (sRet (fCal gLen (aOne (fFld ix_own_offsets (vP 0)))))
def g_Plan_period : FS := g_Plan_period_1
theorem S_Plan_period : FnScope ["self"] ["self"] (defScope (inClass (top 22) 5)) := ⟨rfl, rfl, rfl, by decide +kernel, rfl, by decide +kernel, by decide +kernel⟩
theorem b_Plan_period (v : Ev K mg base) : BodyOk (MM K) P w K mg base 0 "Plan.period" (inClass (top 22) 5) (uA "property" "Plan" "period" K) ["self"] g_Plan_period :=
  fun cdv A outer s H E hr tk hp => (dss_one (ds_ret (b_len (by rfl) (u_len v) (db_one (DI.pk (di_fld (F_own_offsets v) (dp_var (pv 0))))))))
def m_Plan_period : Fm := mir 1 1 g_Plan_period
theorem o_Plan_period (v : Ev K mg base) : DefOk (MM K) P w K mg base 1 "period" "Plan.period" (inClass (top 22) 5) [] (uA "property" "Plan" "period" K) ["self"] m_Plan_period := by
  obtain ⟨fd, F⟩ := v.c.def_ 20 (d := d_Plan_period) rfl
  exact ⟨fd, F, funD_mir (M := MM K) F S_Plan_period (by decide) (fun cdv A outer s H E hr tk hp => b_Plan_period v cdv A outer s H E hr tk hp)⟩
theorem f_Plan_period (v : Ev K mg base) : TS.FnR P w K mg base (L2.CX P w) 1 (uA "property" "Plan" "period" K) (spD (MM K) m_Plan_period) := by
  obtain ⟨fd, F, O⟩ := o_Plan_period (P := P) (w := w) v
  exact fnR_raw (M := MM K) O (F.bindsN (ps := ["self"]) fun _ _ _ _ _ _ us hl => match us, hl with | [_], _ => rfl)
def ptab_period : Nat → Option Fm := fun n => match n with
  | 0 => some m_Plan_period
  | _ => none
theorem PT_period (v : Ev K mg base) : ∀ n f, ptab_period n = some f → ∃ C p g, (MM K).G n = some C ∧ Cls K C ∧ PropOf K C "period" p g ∧ TS.FnR P w K mg base (L2.CX P w) 1 g (spD (MM K) f) := by
  intro n f h
  unfold ptab_period at h
  split at h
  · cases h
    exact ⟨_, _, _, rfl, He.cls_ok (v.c.fact 11 (f := .he (.cls "Plan"))), prop_ok (v.c.fact 73 (f := .prop "Plan" "period")), (f_Plan_period v).mono (by decide)⟩
  · cases h
abbrev g_crossing_count_1 : FS := (sAsg (fOwn m_crossing_ranges (aCons (vI 0) (aCons (vI 1) (aCons (vI 2) aNil)))) (tName 3))
abbrev g_crossing_count_2 : FS := (sRet (fCal gSum (aOne (frz (fLc (stTrip 4 5 6) [4, 5, 6] (itSeq (vI 3)) tTrue (frz (fOwn m_count_with (aCons (vI 4) (aCons (fProp ptab_period (vI 0)) (aCons (vI 5) (aCons (vI 6) aNil)))))))))))
def g_crossing_count : FS := (sSeq g_crossing_count_1 g_crossing_count_2)
theorem S_crossing_count : FnScope ["plan", "cut", "sign", "rows", "remainder", "first", "last"] ["plan", "cut", "sign"] (defScope (top 27)) := ⟨rfl, rfl, rfl, by decide +kernel, rfl, by decide +kernel, by decide +kernel⟩
theorem kp_crossing_count (v : Ev K mg base) : PySem.W.keepIn K (.ref (He.ga K "crossing_count")) = true := (v.c.def_ 21 (d := d_crossing_count) rfl).elim fun _ F => F.kp
theorem b_crossing_count (v : Ev K mg base) : BodyOk (MM K) P w K mg base 2 "crossing_count" (top 27) (He.ga K "crossing_count") ["plan", "cut", "sign", "rows", "remainder", "first", "last"] g_crossing_count :=
  fun cdv A outer s H E hr tk hp => (dss_cons (ds_set (i := 3) S_crossing_count.nd (by rfl) (by first | exact Or.inl rfl | exact Or.inr rfl) (d_own (fun h => pe_own ((f_crossing_ranges v).mono (by decide)) hr tk (by rfl) (u_crossing_ranges v) (kp_crossing_ranges v) h) (da_cons (di_var (pv 0)) (da_cons (di_var (pv 1)) (da_cons (di_var (pv 2)) da_nil)))))
    (dss_one (ds_ret (b_sum (by rfl) (by rfl) (u_sum v) (db_one (DE.pk (de_lc (own := [("remainder", 4), ("first", 5), ("last", 6)]) (by rfl) (by rfl) S_crossing_count.nd (dit_list (di_var (pv 3))) (blkOk_by (by kernel_rfl)) (st_trip (i := 4) (j := 5) (l := 6) (by decide) (by decide) (by decide)) (fun _ _ _ _ _ => pg_tup (by rfl) (pgs_cons (pg_name S_crossing_count.nd (by rfl) (by first | exact Or.inl rfl | exact Or.inr rfl)) (pgs_cons (pg_name S_crossing_count.nd (by rfl) (by first | exact Or.inl rfl | exact Or.inr rfl)) (pgs_cons (pg_name S_crossing_count.nd (by rfl) (by first | exact Or.inl rfl | exact Or.inr rfl)) pgs_nil)))) (fun _ _ _ _ _ => pts_no) (fun _ _ _ _ _ => (DE.frz (d_own (fun h => pe_own ((f_count_with v).mono (by decide)) hr TS.takes0 (by rfl) (u_count_with v) (kp_count_with v) h) (da_cons (di_var (pv 4)) (da_cons (di_prop (propOk_of (PT_period v)) (hr.mono (by decide)) (di_var (pv 0))) (da_cons (di_var (pv 5)) (da_cons (di_var (pv 6)) da_nil))))))))))))))
def m_crossing_count : Fm := mir 7 3 g_crossing_count
theorem o_crossing_count (v : Ev K mg base) : DefOk (MM K) P w K mg base 3 "crossing_count" "crossing_count" (top 27) [] (He.ga K "crossing_count") ["plan", "cut", "sign"] m_crossing_count := by
  obtain ⟨fd, F⟩ := v.c.def_ 21 (d := d_crossing_count) rfl
  exact ⟨fd, F, funD_mir (M := MM K) F S_crossing_count (by decide) (fun cdv A outer s H E hr tk hp => b_crossing_count v cdv A outer s H E hr tk hp)⟩
theorem f_crossing_count (v : Ev K mg base) : TS.FnR P w K mg base (L2.CX P w) 3 (He.ga K "crossing_count") (spD (MM K) m_crossing_count) := by
  obtain ⟨fd, F, O⟩ := o_crossing_count (P := P) (w := w) v
  exact fnR_raw (M := MM K) O (F.bindsN (ps := ["plan", "cut", "sign"]) fun _ _ _ _ _ _ us hl => match us, hl with | [_, _, _], _ => rfl)
abbrev g_places_with_1 : FS := (sAsg (fBin gAdd (vI 2) (frz (fBin gMod (frz (fBin gSub (vI 0) (vP 2))) (vP 1)))) (tName 4))
abbrev g_places_with_2 : FS := (sRet (fLc (stName 5) [5] (itRg1 (frz (fOwn m_count_with (aCons (vI 0) (aCons (vI 1) (aCons (vI 2) (aCons (vI 3) aNil))))))) tTrue (frz (fBin gAdd (vI 4) (frz (fBin gMul (vI 1) (vP 5)))))))
def g_places_with : FS := (sSeq g_places_with_1 g_places_with_2)
theorem S_places_with : FnScope ["remainder", "modulus", "first", "last", "least", "number"] ["remainder", "modulus", "first", "last"] (defScope (top 25)) := ⟨rfl, rfl, rfl, by decide +kernel, rfl, by decide +kernel, by decide +kernel⟩
theorem kp_places_with (v : Ev K mg base) : PySem.W.keepIn K (.ref (He.ga K "places_with")) = true := (v.c.def_ 22 (d := d_places_with) rfl).elim fun _ F => F.kp
theorem b_places_with (v : Ev K mg base) : BodyOk (MM K) P w K mg base 1 "places_with" (top 25) (He.ga K "places_with") ["remainder", "modulus", "first", "last", "least", "number"] g_places_with :=
  fun cdv A outer s H E hr tk hp => (dss_cons (ds_set (i := 4) S_places_with.nd (by rfl) (by first | exact Or.inl rfl | exact Or.inr rfl) (x_add (di_var (pv 2)) (DE.pk (x_mod (DE.frz (x_sub (di_var (pv 0)) (dp_var (pv 2)))) (dp_var (pv 1))))))
    (dss_one (ds_ret (de_lc (own := [("number", 5)]) (by rfl) (by rfl) S_places_with.nd (dit_rg1 (by rfl) (u_range v) (DE.frz (d_own (fun h => pe_own ((f_count_with v).mono (by decide)) hr tk (by rfl) (u_count_with v) (kp_count_with v) h) (da_cons (di_var (pv 0)) (da_cons (di_var (pv 1)) (da_cons (di_var (pv 2)) (da_cons (di_var (pv 3)) da_nil))))))) (blkOk_by (by kernel_rfl)) (st_name 5) (fun _ _ _ _ _ => pg_name S_places_with.nd (by rfl) (by first | exact Or.inl rfl | exact Or.inr rfl)) (fun _ _ _ _ _ => pts_no) (fun _ _ _ _ _ => (DE.frz (x_add (di_var (pv 4)) (DE.pk (x_mul (di_var (pv 1)) (dp_var (pv 5)))))))))))
def m_places_with : Fm := mir 6 4 g_places_with
theorem o_places_with (v : Ev K mg base) : DefOk (MM K) P w K mg base 2 "places_with" "places_with" (top 25) [] (He.ga K "places_with") ["remainder", "modulus", "first", "last"] m_places_with := by
  obtain ⟨fd, F⟩ := v.c.def_ 22 (d := d_places_with) rfl
  exact ⟨fd, F, funD_mir (M := MM K) F S_places_with (by decide) (fun cdv A outer s H E hr tk hp => b_places_with v cdv A outer s H E hr tk hp)⟩
theorem f_places_with (v : Ev K mg base) : TS.FnR P w K mg base (L2.CX P w) 2 (He.ga K "places_with") (spD (MM K) m_places_with) := by
  obtain ⟨fd, F, O⟩ := o_places_with (P := P) (w := w) v
  exact fnR_raw (M := MM K) O (F.bindsN (ps := ["remainder", "modulus", "first", "last"]) fun _ _ _ _ _ _ us hl => match us, hl with | [_, _, _, _], _ => rfl)
abbrev g_crossing_places_1 : FS := (sAsg (fOwn m_crossing_count (aCons (vI 0) (aCons (vI 1) (aCons (vI 2) aNil)))) (tName 4))
abbrev g_crossing_places_2a_1 : FS := (sRaise 116 1 (aCons (vI 4) aNil))
abbrev g_crossing_places_2 : FS := (sIf (fTst (fBin gGt (vI 4) (vP 3))) g_crossing_places_2a_1 sNil)
abbrev g_crossing_places_3 : FS := (sAsg (fLst aNil) (tName 5))
abbrev g_crossing_places_4_1 : FS := (sExpr (toE (fMut 5 mExtend (aCons (frz (fOwn m_places_with (aCons (vI 6) (aCons (fProp ptab_period (vI 0)) (aCons (vI 7) (aCons (vI 8) aNil)))))) aNil))))
abbrev g_crossing_places_4B : FS := g_crossing_places_4_1
abbrev g_crossing_places_4 : FS := (sFor (itSeq (frz (fOwn m_crossing_ranges (aCons (vI 0) (aCons (vI 1) (aCons (vI 2) aNil)))))) (tTup 3 (tsCons (tName 6) (tsCons (tName 7) (tsCons (tName 8) tsNil)))) g_crossing_places_4B)
abbrev g_crossing_places_5 : FS := (sRet (fCal gSorted (aOne (vP 5))))
def g_crossing_places : FS := (sSeq g_crossing_places_1 (sSeq g_crossing_places_2 (sSeq g_crossing_places_3 (sSeq g_crossing_places_4 g_crossing_places_5))))
theorem S_crossing_places : FnScope ["plan", "cut", "sign", "most", "many", "found", "remainder", "first", "last"] ["plan", "cut", "sign", "most"] (defScope (top 28)) := ⟨rfl, rfl, rfl, by decide +kernel, rfl, by decide +kernel, by decide +kernel⟩
theorem kp_crossing_places (v : Ev K mg base) : PySem.W.keepIn K (.ref (He.ga K "crossing_places")) = true := (v.c.def_ 23 (d := d_crossing_places) rfl).elim fun _ F => F.kp
theorem b_crossing_places (v : Ev K mg base) : BodyOk (MM K) P w K mg base 3 "crossing_places" (top 28) (He.ga K "crossing_places") ["plan", "cut", "sign", "most", "many", "found", "remainder", "first", "last"] g_crossing_places :=
  fun cdv A outer s H E hr tk hp => (dss_cons (ds_set (i := 4) S_crossing_places.nd (by rfl) (by first | exact Or.inl rfl | exact Or.inr rfl) (d_own (fun h => pe_own ((f_crossing_count v).mono (by decide)) hr tk (by rfl) (u_crossing_count v) (kp_crossing_count v) h) (da_cons (di_var (pv 0)) (da_cons (di_var (pv 1)) (da_cons (di_var (pv 2)) da_nil)))))
    (dss_cons (ds_if (t_gt (di_var (pv 4)) (dp_var (pv 3))) (dss_one (Exists.elim (xd_TooMany (P := P) (w := w) v) fun _ h => ds_raise (n := 116) (ns := ["many"]) rfl rfl rfl (ex_TooMany v).1 (ex_TooMany v).2.2.1 (ex_TooMany v).2.2.2 h.1 hr (by decide) (by decide) h.2 (by rfl) tk (by rfl) (u_TooMany v) (da_cons (di_var (pv 4)) da_nil))) dss_nil)
    (dss_cons (ds_set (i := 5) S_crossing_places.nd (by rfl) (by first | exact Or.inl rfl | exact Or.inr rfl) (de_lst da_nil))
    (dss_cons (ds_for hp (by rfl) (dit_list (DE.frz (d_own (fun h => pe_own ((f_crossing_ranges v).mono (by decide)) hr tk (by rfl) (u_crossing_ranges v) (kp_crossing_ranges v) h) (da_cons (di_var (pv 0)) (da_cons (di_var (pv 1)) (da_cons (di_var (pv 2)) da_nil)))))) (dg_tup (by rfl) (dgs_cons (dg_name (pg_name S_crossing_places.nd (by rfl) (by first | exact Or.inl rfl | exact Or.inr rfl))) (dgs_cons (dg_name (pg_name S_crossing_places.nd (by rfl) (by first | exact Or.inl rfl | exact Or.inr rfl))) (dgs_cons (dg_name (pg_name S_crossing_places.nd (by rfl) (by first | exact Or.inl rfl | exact Or.inr rfl))) dgs_nil)))) (tgt_tup (tgs_cons (tgt_name 6) (tgs_cons (tgt_name 7) (tgs_cons (tgt_name 8) tgs_nil)))) (dss_one (ds_expr (DI.toE (m_extend (pv 5) (da_cons (DE.frz (d_own (fun h => pe_own ((f_places_with v).mono (by decide)) hr tk (by rfl) (u_places_with v) (kp_places_with v) h) (da_cons (di_var (pv 6)) (da_cons (di_prop (propOk_of (PT_period v)) (hr.mono (by decide)) (di_var (pv 0))) (da_cons (di_var (pv 7)) (da_cons (di_var (pv 8)) da_nil)))))) da_nil))))))
    (dss_one (ds_ret (b_sorted (by rfl) (u_sorted v) (db_one (dp_var (pv 5))))))))))
def m_crossing_places : Fm := mir 9 4 g_crossing_places
theorem o_crossing_places (v : Ev K mg base) : DefOk (MM K) P w K mg base 4 "crossing_places" "crossing_places" (top 28) [] (He.ga K "crossing_places") ["plan", "cut", "sign", "most"] m_crossing_places := by
  obtain ⟨fd, F⟩ := v.c.def_ 23 (d := d_crossing_places) rfl
  exact ⟨fd, F, funD_mir (M := MM K) F S_crossing_places (by decide) (fun cdv A outer s H E hr tk hp => b_crossing_places v cdv A outer s H E hr tk hp)⟩
theorem f_crossing_places (v : Ev K mg base) : TS.FnR P w K mg base (L2.CX P w) 4 (He.ga K "crossing_places") (spD (MM K) m_crossing_places) := by
  obtain ⟨fd, F, O⟩ := o_crossing_places (P := P) (w := w) v
  exact fnR_raw (M := MM K) O (F.bindsN (ps := ["plan", "cut", "sign", "most"]) fun _ _ _ _ _ _ us hl => match us, hl with | [_, _, _, _], _ => rfl)
abbrev g_carried_up_1 : FS := (sExpr (fOwn m_require_integer_d1 (aCons (vI 1) aNil)))
abbrev g_carried_up_2 : FS := (sExpr (fOwn m_require_integer (aCons (vI 2) (aCons (kD (.int 0)) aNil))))
abbrev g_carried_up_3 : FS := (sRet (fOwn m_crossing_places (aCons (vI 0) (aCons (vI 1) (aCons (kD (.int 1)) (aCons (vI 2) aNil))))))
def g_carried_up : FS := (sSeq g_carried_up_1 (sSeq g_carried_up_2 g_carried_up_3))
theorem S_carried_up : FnScope ["plan", "cut", "most"] ["plan", "cut", "most"] (defScope (top 29)) := ⟨rfl, rfl, rfl, by decide +kernel, rfl, by decide +kernel, by decide +kernel⟩
theorem kp_carried_up (v : Ev K mg base) : PySem.W.keepIn K (.ref (He.ga K "carried_up")) = true := (v.c.def_ 24 (d := d_carried_up) rfl).elim fun _ F => F.kp
theorem b_carried_up (v : Ev K mg base) : BodyOk (MM K) P w K mg base 4 "carried_up" (top 29) (He.ga K "carried_up") ["plan", "cut", "most"] g_carried_up :=
  fun cdv A outer s H E hr tk hp => (dss_cons (ds_expr (d_own (fun h => pe_own ((f_require_integer_d1 v).mono (by decide)) hr tk (by rfl) (u_require_integer v) (kp_require_integer v) h) (da_cons (di_var (pv 1)) da_nil)))
    (dss_cons (ds_expr (d_own (fun h => pe_own ((f_require_integer v).mono (by decide)) hr tk (by rfl) (u_require_integer v) (kp_require_integer v) h) (da_cons (di_var (pv 2)) (da_cons di_int da_nil))))
    (dss_one (ds_ret (d_own (fun h => pe_own ((f_crossing_places v).mono (by decide)) hr tk (by rfl) (u_crossing_places v) (kp_crossing_places v) h) (da_cons (di_var (pv 0)) (da_cons (di_var (pv 1)) (da_cons di_int (da_cons (di_var (pv 2)) da_nil)))))))))
def m_carried_up : Fm := mir 3 3 g_carried_up
theorem o_carried_up (v : Ev K mg base) : DefOk (MM K) P w K mg base 5 "carried_up" "carried_up" (top 29) [V.int 100] (He.ga K "carried_up") ["plan", "cut", "most"] m_carried_up := by
  obtain ⟨fd, F⟩ := v.c.def_ 24 (d := d_carried_up) rfl
  exact ⟨fd, F, funD_mir (M := MM K) F S_carried_up (by decide) (fun cdv A outer s H E hr tk hp => b_carried_up v cdv A outer s H E hr tk hp)⟩
theorem f_carried_up (v : Ev K mg base) : TS.FnR P w K mg base (L2.CX P w) 5 (He.ga K "carried_up") (spD (MM K) m_carried_up) := by
  obtain ⟨fd, F, O⟩ := o_carried_up (P := P) (w := w) v
  obtain ⟨ds, hv, hb⟩ := FunD.binds1 (ps := ["plan", "cut", "most"]) F 3 1 (by intro z; cases z) rfl (fun T kV doc pm an cdv ct us its h1 h2 => match us, its, h1, h2 with | [_, _, _], [_], _, _ => ⟨_, rfl, rfl⟩)
  cases hv
  exact fnR_raw (M := MM K) O hb
abbrev g_carried_down_1 : FS := (sExpr (fOwn m_require_integer_d1 (aCons (vI 1) aNil)))
abbrev g_carried_down_2 : FS := (sExpr (fOwn m_require_integer (aCons (vI 2) (aCons (kD (.int 0)) aNil))))
abbrev g_carried_down_3 : FS := (sRet (fOwn m_crossing_places (aCons (vI 0) (aCons (vI 1) (aCons (fUnI (fun i => -i) (kD (.int 1))) (aCons (vI 2) aNil))))))
def g_carried_down : FS := (sSeq g_carried_down_1 (sSeq g_carried_down_2 g_carried_down_3))
theorem S_carried_down : FnScope ["plan", "cut", "most"] ["plan", "cut", "most"] (defScope (top 30)) := ⟨rfl, rfl, rfl, by decide +kernel, rfl, by decide +kernel, by decide +kernel⟩
theorem kp_carried_down (v : Ev K mg base) : PySem.W.keepIn K (.ref (He.ga K "carried_down")) = true := (v.c.def_ 25 (d := d_carried_down) rfl).elim fun _ F => F.kp
theorem b_carried_down (v : Ev K mg base) : BodyOk (MM K) P w K mg base 4 "carried_down" (top 30) (He.ga K "carried_down") ["plan", "cut", "most"] g_carried_down :=
  fun cdv A outer s H E hr tk hp => (dss_cons (ds_expr (d_own (fun h => pe_own ((f_require_integer_d1 v).mono (by decide)) hr tk (by rfl) (u_require_integer v) (kp_require_integer v) h) (da_cons (di_var (pv 1)) da_nil)))
    (dss_cons (ds_expr (d_own (fun h => pe_own ((f_require_integer v).mono (by decide)) hr tk (by rfl) (u_require_integer v) (kp_require_integer v) h) (da_cons (di_var (pv 2)) (da_cons di_int da_nil))))
    (dss_one (ds_ret (d_own (fun h => pe_own ((f_crossing_places v).mono (by decide)) hr tk (by rfl) (u_crossing_places v) (kp_crossing_places v) h) (da_cons (di_var (pv 0)) (da_cons (di_var (pv 1)) (da_cons (di_neg di_int) (da_cons (di_var (pv 2)) da_nil)))))))))
def m_carried_down : Fm := mir 3 3 g_carried_down
theorem o_carried_down (v : Ev K mg base) : DefOk (MM K) P w K mg base 5 "carried_down" "carried_down" (top 30) [V.int 100] (He.ga K "carried_down") ["plan", "cut", "most"] m_carried_down := by
  obtain ⟨fd, F⟩ := v.c.def_ 25 (d := d_carried_down) rfl
  exact ⟨fd, F, funD_mir (M := MM K) F S_carried_down (by decide) (fun cdv A outer s H E hr tk hp => b_carried_down v cdv A outer s H E hr tk hp)⟩
def m_fk_carried_down_0_most_cut_plan : Fm := fmIx 0 [2, 1, 0] m_carried_down
theorem fk_carried_down_0_most_cut_plan (v : Ev K mg base) : FnK P w K mg base (L2.CX P w) 5 (He.ga K "carried_down") 0 ["most", "cut", "plan"] (spD (MM K) m_fk_carried_down_0_most_cut_plan) := by
  obtain ⟨fd, F, O⟩ := o_carried_down (P := P) (w := w) v
  exact fnK_ix (M := MM K) (ix := [2, 1, 0]) O (kb_ixD F (by intro z; cases z) fun _ _ _ _ _ _ _ us its ws h1 h2 h3 => match us, its, ws, h1, h2, h3 with | [], [_], [_, _, _], _, _, _ => ⟨_, rfl, rfl⟩)
abbrev g__law_asked_1a_1 : FS := (sRet (fLamO [0, 1, 3] m__law_told (fOwn m_carried_up (aCons (vI 0) (aCons (vI 1) (aCons (vI 3) aNil))))))
abbrev g__law_asked_1 : FS := (sIf (fTst (fBin gEq (vI 2) (kD (.int 1)))) g__law_asked_1a_1 sNil)
abbrev g__law_asked_2 : FS := (sRet (fLamO [0, 1, 3] m__law_told (fOwnK0 m_fk_carried_down_0_most_cut_plan 3 (aCons (vI 3) (aCons (vI 1) (aCons (vI 0) aNil))))))
def g__law_asked : FS := (sSeq g__law_asked_1 g__law_asked_2)
theorem S__law_asked : FnScope ["_law_known", "_law_gate", "_law_sign", "_law_bound"] ["_law_known", "_law_gate", "_law_sign", "_law_bound"] (defScope (top 44)) := ⟨rfl, rfl, rfl, by decide +kernel, rfl, by decide +kernel, by decide +kernel⟩
theorem kp__law_asked (v : Ev K mg base) : PySem.W.keepIn K (.ref (He.ga K "_law_asked")) = true := (v.c.def_ 26 (d := d__law_asked) rfl).elim fun _ F => F.kp
theorem mk__law_asked (v : Ev K mg base) : LamX.TabB base mg (cdA (gA "_law_asked") K) (tbA (gA "_law_asked") K) ∧ (tbA (gA "_law_asked") K, ("_law_asked.<locals>.<lambda>" : Str)) ∈ (MM K).T ∧ ∀ p ∈ (MM K).T, p.1 = tbA (gA "_law_asked") K → p.2 = ("_law_asked.<locals>.<lambda>" : Str) :=
  mk_of v.t v.u (i := 0) rfl
theorem b__law_asked (v : Ev K mg base) (cdv : Value) (hcd : cdv = .ref (cdA (gA "_law_asked") K)) (A : Around) (outer : List Env) (s : Shared) (H : Hp) (E : XK) (hr : TS.Room 7 (A.deeper (PyProof.Rows.envOfC "_law_asked" (defScope (top 44)) s.heap.objs.size (He.ga K "_law_asked") cdv))) (tk : Takes (cxOf (L2.CX P w) P w K mg base ["_law_known", "_law_gate", "_law_sign", "_law_bound"] "_law_asked" (defScope (top 44)) (He.ga K "_law_asked") cdv A outer s H E) (fun cls d _ H => E cls d H))
    (hp : PassesOwn (model P w) (A.deeper (PyProof.Rows.envOfC "_law_asked" (defScope (top 44)) s.heap.objs.size (He.ga K "_law_asked") cdv)) (PyProof.Rows.envOfC "_law_asked" (defScope (top 44)) s.heap.objs.size (He.ga K "_law_asked") cdv) (cxOf (L2.CX P w) P w K mg base ["_law_known", "_law_gate", "_law_sign", "_law_bound"] "_law_asked" (defScope (top 44)) (He.ga K "_law_asked") cdv A outer s H E).xe) : DSs (MM K) (fun cls d _ H => E cls d H) (cxOf (L2.CX P w) P w K mg base ["_law_known", "_law_gate", "_law_sign", "_law_bound"] "_law_asked" (defScope (top 44)) (He.ga K "_law_asked") cdv A outer s H E) (defBody (top 44)) g__law_asked :=
  (dss_cons (ds_if (t_eq hr (di_var (pv 2)) (DI.pk di_int)) (dss_one (ds_ret (Exists.elim (l__law_told (P := P) (w := w) v) fun _ hL => d_lamO (kb := 5) hL rfl (by rfl) (u__law_told v) tk hr (by decide) (by decide) (mk__law_asked v).1 hcd (mk__law_asked v).2.1 (mk__law_asked v).2.2 (LamX.lamS_by (by rfl)) (fun A outer s H E f c' hr tk => (d_own (fun h => pe_own ((f_carried_up v).mono (by decide)) hr tk (by rfl) (u_carried_up v) (kp_carried_up v) h) (da_cons (di_var (pv 0)) (da_cons (di_var (pv 1)) (da_cons (di_var (pv 3)) da_nil)))))))) dss_nil)
    (dss_one (ds_ret (Exists.elim (l__law_told (P := P) (w := w) v) fun _ hL => d_lamO (kb := 5) hL rfl (by rfl) (u__law_told v) tk hr (by decide) (by decide) (mk__law_asked v).1 hcd (mk__law_asked v).2.1 (mk__law_asked v).2.2 (LamX.lamS_by (by rfl)) (fun A outer s H E f c' hr tk => (d_ownK0 (fun h' => pe_ownK0 ((fk_carried_down_0_most_cut_plan v).mono (by decide)) hr tk (by rfl) (u_carried_down v) (kp_carried_down v) h') (dk_cons (di_var (pv 3)) (dk_cons (di_var (pv 1)) (dk_cons (di_var (pv 0)) dk_nil)))))))))
def m__law_asked : Fm := mir 4 4 g__law_asked
theorem o__law_asked (v : Ev K mg base) : DefOk (MM K) P w K mg base 8 "_law_asked" "_law_asked" (top 44) [] (He.ga K "_law_asked") ["_law_known", "_law_gate", "_law_sign", "_law_bound"] m__law_asked := by
  obtain ⟨fd, F⟩ := v.c.def_ 26 (d := d__law_asked) rfl
  exact ⟨fd, F, funD_mirC (M := MM K) F S__law_asked (by decide) (fun cdv hc A outer s H E hr tk hp => b__law_asked v cdv (code_of (f := (gA "_law_asked")) (v.m _ (List.mem_of_getElem? (show tn[0]? = some _ from rfl))) hc) A outer s H E hr tk hp)⟩
theorem f__law_asked (v : Ev K mg base) : TS.FnR P w K mg base (L2.CX P w) 8 (He.ga K "_law_asked") (spD (MM K) m__law_asked) := by
  obtain ⟨fd, F, O⟩ := o__law_asked (P := P) (w := w) v
  exact fnR_raw (M := MM K) O (F.bindsN (ps := ["_law_known", "_law_gate", "_law_sign", "_law_bound"]) fun _ _ _ _ _ _ us hl => match us, hl with | [_, _, _, _], _ => rfl)
abbrev g__law_far_right_1 : FS := (sPar 2 3 (fBin gAdd (kD (.int 1)) (frz (fOwnIo m__law_draw 0 (aCons (kD (.int 3)) aNil)))) (fOwnIo m__law_pick 0 (aCons (frz (fLst (aCons (kD (.int 1)) (aCons (fUnI (fun i => -i) (kD (.int 1))) aNil)))) aNil)))
abbrev g__law_far_right_2 : FS := (sPar 4 5 (fLc (stPair 8 9) [8, 9] (itEnum (frz (fOwnIo m__law_mixed 0 (aCons (frz (fLRg1 (vI 2))) aNil)))) tTrue (frz (fBin gSub (vI 9) (vP 8)))) (fOwnIo m__law_draw 0 (aCons (vI 2) aNil)))
abbrev g__law_far_right_3 : FS := (sAsg (toE (frz (fBin gAdd (frz (fBinV gIx 4 (vP 5))) (frz (fBin gMul (frz (fBin gMul (vI 3) (vP 2))) (frz (fOwnIo m__law_draw 0 (aCons (frz (fBin gFdiv (kD (.int 5000)) (vP 2))) aNil)))))))) (tSub 4 (vI 5)))
abbrev g__law_far_right_4 : FS := (sPar 6 7 (fMake 0 m_Plan___init__ (aCons (vI 4) aNil)) (fOwnIo m__law_great 0 (aCons (kD (.int 9)) aNil)))
abbrev g__law_far_right_5 : FS := (sAsg (fOwn m__law_found (aCons (vI 4) (aCons (vI 7) (aCons (vI 3) aNil)))) (tName 1))
abbrev g__law_far_right_6 : FS := (sRet (fBin gEq (frzN (fOwn m__law_asked (aCons (vI 6) (aCons (vI 7) (aCons (vI 3) (aCons (frz (fBin gAdd (frz (fCal gLen (aOne (vP 1)))) (frz (fOwnIo m__law_draw 0 (aCons (kD (.int 9)) aNil))))) aNil)))))) (frz (fLst (aCons (kD (.str "told")) (aCons (vI 1) aNil))))))
def g__law_far_right : FS := (sSeq g__law_far_right_1 (sSeq g__law_far_right_2 (sSeq g__law_far_right_3 (sSeq g__law_far_right_4 (sSeq g__law_far_right_5 g__law_far_right_6)))))
theorem S__law_far_right : FnScope ["_law_pot_here", "_law_due", "_law_many", "_law_sign", "_law_table_here", "_law_at_here", "_law_known", "_law_gate", "_law_place", "_law_goal"] ["_law_pot_here"] (defScope (top 48)) := ⟨rfl, rfl, rfl, by decide +kernel, rfl, by decide +kernel, by decide +kernel⟩
theorem kp__law_far_right (v : Ev K mg base) : PySem.W.keepIn K (.ref (He.ga K "_law_far_right")) = true := (v.c.def_ 27 (d := d__law_far_right) rfl).elim fun _ F => F.kp
theorem b__law_far_right (v : Ev K mg base) : BodyOk (MM K) P w K mg base 8 "_law_far_right" (top 48) (He.ga K "_law_far_right") ["_law_pot_here", "_law_due", "_law_many", "_law_sign", "_law_table_here", "_law_at_here", "_law_known", "_law_gate", "_law_place", "_law_goal"] g__law_far_right :=
  fun cdv A outer s H E hr tk hp => (dss_cons (ds_par (i := 2) (j := 3) (by rfl) S__law_far_right.nd (by rfl) (by rfl) (by decide) (by rfl) (by rfl) (x_add di_int (DE.pk (d_ownIo (fun h => pe_own ((f__law_draw v).mono (by decide)) hr tk (by rfl) (u__law_draw v) (kp__law_draw v) h) (pv 0) (da_cons di_int da_nil)))) (d_ownIo (fun h => pe_own ((f__law_pick v).mono (by decide)) hr tk (by rfl) (u__law_pick v) (kp__law_pick v) h) (pv 0) (da_cons (DE.frz (de_lst (da_cons di_int (da_cons (di_neg di_int) da_nil)))) da_nil)) (by rfl))
    (dss_cons (ds_par (i := 4) (j := 5) (by rfl) S__law_far_right.nd (by rfl) (by rfl) (by decide) (by rfl) (by rfl) (de_lc (own := [("_law_place", 8), ("_law_goal", 9)]) (by rfl) (by rfl) S__law_far_right.nd (dit_enum (by rfl) (u_enumerate v) (DE.frz (d_ownIo (fun h => pe_own ((f__law_mixed v).mono (by decide)) hr tk (by rfl) (u__law_mixed v) (kp__law_mixed v) h) (pv 0) (da_cons (DE.frz (de_lrg1 (by rfl) (by rfl) (u_list v) (by rfl) (u_range v) (di_var (pv 2)))) da_nil)))) (blkOk_by (by kernel_rfl)) (st_pair (i := 8) (j := 9) (by decide)) (fun _ _ _ _ _ => pg_tup (by rfl) (pgs_cons (pg_name S__law_far_right.nd (by rfl) (by first | exact Or.inl rfl | exact Or.inr rfl)) (pgs_cons (pg_name S__law_far_right.nd (by rfl) (by first | exact Or.inl rfl | exact Or.inr rfl)) pgs_nil))) (fun _ _ _ _ _ => pts_no) (fun _ _ _ _ _ => (DE.frz (x_sub (di_var (pv 9)) (dp_var (pv 8)))))) (d_ownIo (fun h => pe_own ((f__law_draw v).mono (by decide)) hr tk (by rfl) (u__law_draw v) (kp__law_draw v) h) (pv 0) (da_cons (di_var (pv 2)) da_nil)) (by rfl))
    (dss_cons (ds_asg (DI.toE (DE.frz (x_add (DE.frz (x_ixV hr (pv 4) (dp_var (pv 5)))) (DE.pk (x_mul (DE.frz (x_mul (di_var (pv 3)) (dp_var (pv 2)))) (DE.pk (d_ownIo (fun h => pe_own ((f__law_draw v).mono (by decide)) hr tk (by rfl) (u__law_draw v) (kp__law_draw v) h) (pv 0) (da_cons (DE.frz (x_fdiv di_int (dp_var (pv 2)))) da_nil)))))))) (dg_sub (pv 4) (di_var (pv 5)) (hu_of hr)) tgt_sub)
    (dss_cons (ds_par (i := 6) (j := 7) (by rfl) S__law_far_right.nd (by rfl) (by rfl) (by decide) (by rfl) (by rfl) (d_make (fun h => pe_makeS (He.mkr_ok (v.c.fact 38 (f := .he (.mkr "Plan")))) ((f_Plan___init__ v).mono (by decide)) (hr.mono (by decide : 5 ≤ 8)) tk (by rfl) (u_Plan v) h) rfl (da_cons (di_var (pv 4)) da_nil)) (d_ownIo (fun h => pe_own ((f__law_great v).mono (by decide)) hr tk (by rfl) (u__law_great v) (kp__law_great v) h) (pv 0) (da_cons di_int da_nil)) (by rfl))
    (dss_cons (ds_set (i := 1) S__law_far_right.nd (by rfl) (by first | exact Or.inl rfl | exact Or.inr rfl) (d_own (fun h => pe_own ((f__law_found v).mono (by decide)) hr tk (by rfl) (u__law_found v) (kp__law_found v) h) (da_cons (di_var (pv 4)) (da_cons (di_var (pv 7)) (da_cons (di_var (pv 3)) da_nil)))))
    (dss_one (ds_ret (x_eq hr (DE.frzN (d_own (fun h => pe_own ((f__law_asked v).mono (by decide)) hr tk (by rfl) (u__law_asked v) (kp__law_asked v) h) (da_cons (di_var (pv 6)) (da_cons (di_var (pv 7)) (da_cons (di_var (pv 3)) (da_cons (DE.frz (x_add (DE.frz (b_len (by rfl) (u_len v) (db_one (dp_var (pv 1))))) (DE.pk (d_ownIo (fun h => pe_own ((f__law_draw v).mono (by decide)) hr tk (by rfl) (u__law_draw v) (kp__law_draw v) h) (pv 0) (da_cons di_int da_nil))))) da_nil)))))) (DE.pk (de_lst (da_cons di_str (da_cons (di_var (pv 1)) da_nil))))))))))))
def m__law_far_right : Fm := mir 10 1 g__law_far_right
theorem o__law_far_right (v : Ev K mg base) : DefOk (MM K) P w K mg base 9 "_law_far_right" "_law_far_right" (top 48) [] (He.ga K "_law_far_right") ["_law_pot_here"] m__law_far_right := by
  obtain ⟨fd, F⟩ := v.c.def_ 27 (d := d__law_far_right) rfl
  exact ⟨fd, F, funD_mir (M := MM K) F S__law_far_right (by decide) (fun cdv A outer s H E hr tk hp => b__law_far_right v cdv A outer s H E hr tk hp)⟩
theorem f__law_far_right (v : Ev K mg base) : TS.FnR P w K mg base (L2.CX P w) 9 (He.ga K "_law_far_right") (spD (MM K) m__law_far_right) := by
  obtain ⟨fd, F, O⟩ := o__law_far_right (P := P) (w := w) v
  exact fnR_raw (M := MM K) O (F.bindsN (ps := ["_law_pot_here"]) fun _ _ _ _ _ _ us hl => match us, hl with | [_], _ => rfl)
abbrev g__law_spans_1 : FS := (sAsg (fLst aNil) (tName 3))
abbrev g__law_spans_2_1a_1 : FS := (sAsg (fCal gSorted (aOne (frz (fLst (aCons (vI 1) (aCons (frz (fBin gSub (vI 1) (vP 5))) aNil)))))) (tName 6))
abbrev g__law_spans_2_1a_2 : FS := (sExpr (toE (fMut 3 mAppend (aCons (fTup (aCons (vI 4) (aCons (frz (fBin gIx (vI 6) (kD (.int 0)))) (aCons (frz (fBin gIx (vI 6) (kD (.int 1)))) aNil)))) aNil))))
abbrev g__law_spans_2_1 : FS := (sIf (fTst (fBin gGt (frz (fBin gMul (vI 5) (vP 2))) (kD (.int 0)))) (sSeq g__law_spans_2_1a_1 g__law_spans_2_1a_2) sNil)
abbrev g__law_spans_2B : FS := g__law_spans_2_1
abbrev g__law_spans_2 : FS := (sFor (itEnum (vI 0)) (tTup 2 (tsCons (tName 4) (tsCons (tName 5) tsNil))) g__law_spans_2B)
abbrev g__law_spans_3 : FS := (sRet (vR 3))
def g__law_spans : FS := (sSeq g__law_spans_1 (sSeq g__law_spans_2 g__law_spans_3))
theorem S__law_spans : FnScope ["_law_table_here", "_law_gate", "_law_sign", "_law_found_here", "_law_place", "_law_offset", "_law_ends"] ["_law_table_here", "_law_gate", "_law_sign"] (defScope (top 40)) := ⟨rfl, rfl, rfl, by decide +kernel, rfl, by decide +kernel, by decide +kernel⟩
theorem kp__law_spans (v : Ev K mg base) : PySem.W.keepIn K (.ref (He.ga K "_law_spans")) = true := (v.c.def_ 28 (d := d__law_spans) rfl).elim fun _ F => F.kp
theorem b__law_spans (v : Ev K mg base) : BodyOk (MM K) P w K mg base 0 "_law_spans" (top 40) (He.ga K "_law_spans") ["_law_table_here", "_law_gate", "_law_sign", "_law_found_here", "_law_place", "_law_offset", "_law_ends"] g__law_spans :=
  fun cdv A outer s H E hr tk hp => (dss_cons (ds_set (i := 3) S__law_spans.nd (by rfl) (by first | exact Or.inl rfl | exact Or.inr rfl) (de_lst da_nil))
    (dss_cons (ds_for hp (by rfl) (dit_enum (by rfl) (u_enumerate v) (di_var (pv 0))) (dg_tup (by rfl) (dgs_cons (dg_name (pg_name S__law_spans.nd (by rfl) (by first | exact Or.inl rfl | exact Or.inr rfl))) (dgs_cons (dg_name (pg_name S__law_spans.nd (by rfl) (by first | exact Or.inl rfl | exact Or.inr rfl))) dgs_nil))) (tgt_tup (tgs_cons (tgt_name 4) (tgs_cons (tgt_name 5) tgs_nil))) (dss_one (ds_if (t_gt (DE.frz (x_mul (di_var (pv 5)) (dp_var (pv 2)))) (DI.pk di_int)) (dss_cons (ds_set (i := 6) S__law_spans.nd (by rfl) (by first | exact Or.inl rfl | exact Or.inr rfl) (b_sorted (by rfl) (u_sorted v) (db_one (DE.pk (de_lst (da_cons (di_var (pv 1)) (da_cons (DE.frz (x_sub (di_var (pv 1)) (dp_var (pv 5)))) da_nil)))))))
    (dss_one (ds_expr (DI.toE (m_append (pv 3) (da_cons (di_tup (da_cons (di_var (pv 4)) (da_cons (DE.frz (x_ix hr (di_var (pv 6)) (DI.pk di_int))) (da_cons (DE.frz (x_ix hr (di_var (pv 6)) (DI.pk di_int))) da_nil)))) da_nil)))))) dss_nil)))
    (dss_one (ds_ret (de_var (pv 3))))))
def m__law_spans : Fm := mir 7 3 g__law_spans
theorem o__law_spans (v : Ev K mg base) : DefOk (MM K) P w K mg base 1 "_law_spans" "_law_spans" (top 40) [] (He.ga K "_law_spans") ["_law_table_here", "_law_gate", "_law_sign"] m__law_spans := by
  obtain ⟨fd, F⟩ := v.c.def_ 28 (d := d__law_spans) rfl
  exact ⟨fd, F, funD_mir (M := MM K) F S__law_spans (by decide) (fun cdv A outer s H E hr tk hp => b__law_spans v cdv A outer s H E hr tk hp)⟩
theorem f__law_spans (v : Ev K mg base) : TS.FnR P w K mg base (L2.CX P w) 1 (He.ga K "_law_spans") (spD (MM K) m__law_spans) := by
  obtain ⟨fd, F, O⟩ := o__law_spans (P := P) (w := w) v
  exact fnR_raw (M := MM K) O (F.bindsN (ps := ["_law_table_here", "_law_gate", "_law_sign"]) fun _ _ _ _ _ _ us hl => match us, hl with | [_, _, _], _ => rfl)
abbrev g__law_count_1 : FS := (sPar 3 4 (toE (kD (.int 0))) (fCal gLen (aOne (vP 0))))
abbrev g__law_count_2_1 : FS := (sAsg (fBin gSub (frz (fBin gAdd (vI 3) (frz (fBin gFdiv (frz (fBin gSub (frz (fBin gSub (vI 7) (kD (.int 1)))) (vP 5))) (vP 4))))) (frz (fBin gFdiv (frz (fBin gSub (frz (fBin gSub (vI 6) (kD (.int 1)))) (vP 5))) (vP 4)))) (tName 3))
abbrev g__law_count_2B : FS := g__law_count_2_1
abbrev g__law_count_2 : FS := (sFor (itSeq (frz (fOwn m__law_spans (aCons (vI 0) (aCons (vI 1) (aCons (vI 2) aNil)))))) (tTup 3 (tsCons (tName 5) (tsCons (tName 6) (tsCons (tName 7) tsNil)))) g__law_count_2B)
abbrev g__law_count_3 : FS := (sRet (vR 3))
def g__law_count : FS := (sSeq g__law_count_1 (sSeq g__law_count_2 g__law_count_3))
theorem S__law_count : FnScope ["_law_table_here", "_law_gate", "_law_sign", "_law_found_here", "_law_many", "_law_place", "_law_first", "_law_last"] ["_law_table_here", "_law_gate", "_law_sign"] (defScope (top 41)) := ⟨rfl, rfl, rfl, by decide +kernel, rfl, by decide +kernel, by decide +kernel⟩
theorem kp__law_count (v : Ev K mg base) : PySem.W.keepIn K (.ref (He.ga K "_law_count")) = true := (v.c.def_ 29 (d := d__law_count) rfl).elim fun _ F => F.kp
theorem b__law_count (v : Ev K mg base) : BodyOk (MM K) P w K mg base 1 "_law_count" (top 41) (He.ga K "_law_count") ["_law_table_here", "_law_gate", "_law_sign", "_law_found_here", "_law_many", "_law_place", "_law_first", "_law_last"] g__law_count :=
  fun cdv A outer s H E hr tk hp => (dss_cons (ds_par (i := 3) (j := 4) (by rfl) S__law_count.nd (by rfl) (by rfl) (by decide) (by rfl) (by rfl) (DI.toE di_int) (b_len (by rfl) (u_len v) (db_one (dp_var (pv 0)))) (by rfl))
    (dss_cons (ds_for hp (by rfl) (dit_list (DE.frz (d_own (fun h => pe_own ((f__law_spans v).mono (by decide)) hr tk (by rfl) (u__law_spans v) (kp__law_spans v) h) (da_cons (di_var (pv 0)) (da_cons (di_var (pv 1)) (da_cons (di_var (pv 2)) da_nil)))))) (dg_tup (by rfl) (dgs_cons (dg_name (pg_name S__law_count.nd (by rfl) (by first | exact Or.inl rfl | exact Or.inr rfl))) (dgs_cons (dg_name (pg_name S__law_count.nd (by rfl) (by first | exact Or.inl rfl | exact Or.inr rfl))) (dgs_cons (dg_name (pg_name S__law_count.nd (by rfl) (by first | exact Or.inl rfl | exact Or.inr rfl))) dgs_nil)))) (tgt_tup (tgs_cons (tgt_name 5) (tgs_cons (tgt_name 6) (tgs_cons (tgt_name 7) tgs_nil)))) (dss_one (ds_set (i := 3) S__law_count.nd (by rfl) (by first | exact Or.inl rfl | exact Or.inr rfl) (x_sub (DE.frz (x_add (di_var (pv 3)) (DE.pk (x_fdiv (DE.frz (x_sub (DE.frz (x_sub (di_var (pv 7)) (DI.pk di_int))) (dp_var (pv 5)))) (dp_var (pv 4)))))) (DE.pk (x_fdiv (DE.frz (x_sub (DE.frz (x_sub (di_var (pv 6)) (DI.pk di_int))) (dp_var (pv 5)))) (dp_var (pv 4))))))))
    (dss_one (ds_ret (de_var (pv 3))))))
def m__law_count : Fm := mir 8 3 g__law_count
theorem o__law_count (v : Ev K mg base) : DefOk (MM K) P w K mg base 2 "_law_count" "_law_count" (top 41) [] (He.ga K "_law_count") ["_law_table_here", "_law_gate", "_law_sign"] m__law_count := by
  obtain ⟨fd, F⟩ := v.c.def_ 29 (d := d__law_count) rfl
  exact ⟨fd, F, funD_mir (M := MM K) F S__law_count (by decide) (fun cdv A outer s H E hr tk hp => b__law_count v cdv A outer s H E hr tk hp)⟩
theorem f__law_count (v : Ev K mg base) : TS.FnR P w K mg base (L2.CX P w) 2 (He.ga K "_law_count") (spD (MM K) m__law_count) := by
  obtain ⟨fd, F, O⟩ := o__law_count (P := P) (w := w) v
  exact fnR_raw (M := MM K) O (F.bindsN (ps := ["_law_table_here", "_law_gate", "_law_sign"]) fun _ _ _ _ _ _ us hl => match us, hl with | [_, _, _], _ => rfl)
def m_carried_up_d2 : Fm := fmDfl m_carried_up [(.int 100)]
theorem f_carried_up_d2 (v : Ev K mg base) : TS.FnR P w K mg base (L2.CX P w) 5 (He.ga K "carried_up") (spD (MM K) m_carried_up_d2) := by
  obtain ⟨fd, F, O⟩ := o_carried_up (P := P) (w := w) v
  obtain ⟨ds, hv, hb⟩ := FunD.binds1 (ps := ["plan", "cut", "most"]) F 2 0 (by intro z; cases z) rfl (fun T kV doc pm an cdv ct us its h1 h2 => match us, its, h1, h2 with | [_, _], [_], _, _ => ⟨_, rfl, rfl⟩)
  exact fnR_dfl (M := MM K) (fun F => (reps_cons (rep_int' _) reps_nil)) (O.raw hb hv)
def m_carried_down_d2 : Fm := fmDfl m_carried_down [(.int 100)]
theorem f_carried_down_d2 (v : Ev K mg base) : TS.FnR P w K mg base (L2.CX P w) 5 (He.ga K "carried_down") (spD (MM K) m_carried_down_d2) := by
  obtain ⟨fd, F, O⟩ := o_carried_down (P := P) (w := w) v
  obtain ⟨ds, hv, hb⟩ := FunD.binds1 (ps := ["plan", "cut", "most"]) F 2 0 (by intro z; cases z) rfl (fun T kV doc pm an cdv ct us its h1 h2 => match us, its, h1, h2 with | [_, _], [_], _, _ => ⟨_, rfl, rfl⟩)
  exact fnR_dfl (M := MM K) (fun F => (reps_cons (rep_int' _) reps_nil)) (O.raw hb hv)
abbrev g__law_default_1 : FS := (sRet (fLamO [0, 1, 2] m__law_told (fIfE (fTst (fBin gEq (vI 2) (kD (.int 1)))) (fOwn m_carried_up_d2 (aCons (vI 0) (aCons (vI 1) aNil))) (fOwn m_carried_down_d2 (aCons (vI 0) (aCons (vI 1) aNil))))))
def g__law_default : FS := g__law_default_1
theorem S__law_default : FnScope ["_law_known", "_law_gate", "_law_sign"] ["_law_known", "_law_gate", "_law_sign"] (defScope (top 45)) := ⟨rfl, rfl, rfl, by decide +kernel, rfl, by decide +kernel, by decide +kernel⟩
theorem kp__law_default (v : Ev K mg base) : PySem.W.keepIn K (.ref (He.ga K "_law_default")) = true := (v.c.def_ 30 (d := d__law_default) rfl).elim fun _ F => F.kp
theorem mk__law_default (v : Ev K mg base) : LamX.TabB base mg (cdA (gA "_law_default") K) (tbA (gA "_law_default") K) ∧ (tbA (gA "_law_default") K, ("_law_default.<locals>.<lambda>" : Str)) ∈ (MM K).T ∧ ∀ p ∈ (MM K).T, p.1 = tbA (gA "_law_default") K → p.2 = ("_law_default.<locals>.<lambda>" : Str) :=
  mk_of v.t v.u (i := 1) rfl
theorem b__law_default (v : Ev K mg base) (cdv : Value) (hcd : cdv = .ref (cdA (gA "_law_default") K)) (A : Around) (outer : List Env) (s : Shared) (H : Hp) (E : XK) (hr : TS.Room 7 (A.deeper (PyProof.Rows.envOfC "_law_default" (defScope (top 45)) s.heap.objs.size (He.ga K "_law_default") cdv))) (tk : Takes (cxOf (L2.CX P w) P w K mg base ["_law_known", "_law_gate", "_law_sign"] "_law_default" (defScope (top 45)) (He.ga K "_law_default") cdv A outer s H E) (fun cls d _ H => E cls d H))
    (hp : PassesOwn (model P w) (A.deeper (PyProof.Rows.envOfC "_law_default" (defScope (top 45)) s.heap.objs.size (He.ga K "_law_default") cdv)) (PyProof.Rows.envOfC "_law_default" (defScope (top 45)) s.heap.objs.size (He.ga K "_law_default") cdv) (cxOf (L2.CX P w) P w K mg base ["_law_known", "_law_gate", "_law_sign"] "_law_default" (defScope (top 45)) (He.ga K "_law_default") cdv A outer s H E).xe) : DSs (MM K) (fun cls d _ H => E cls d H) (cxOf (L2.CX P w) P w K mg base ["_law_known", "_law_gate", "_law_sign"] "_law_default" (defScope (top 45)) (He.ga K "_law_default") cdv A outer s H E) (defBody (top 45)) g__law_default :=
  (dss_one (ds_ret (Exists.elim (l__law_told (P := P) (w := w) v) fun _ hL => d_lamO (kb := 5) hL rfl (by rfl) (u__law_told v) tk hr (by decide) (by decide) (mk__law_default v).1 hcd (mk__law_default v).2.1 (mk__law_default v).2.2 (LamX.lamS_by (by rfl)) (fun A outer s H E f c' hr tk => (de_if (t_eq hr (di_var (pv 2)) (DI.pk di_int)) (d_own (fun h => pe_own ((f_carried_up_d2 v).mono (by decide)) hr tk (by rfl) (u_carried_up v) (kp_carried_up v) h) (da_cons (di_var (pv 0)) (da_cons (di_var (pv 1)) da_nil))) (d_own (fun h => pe_own ((f_carried_down_d2 v).mono (by decide)) hr tk (by rfl) (u_carried_down v) (kp_carried_down v) h) (da_cons (di_var (pv 0)) (da_cons (di_var (pv 1)) da_nil))))))))
def m__law_default : Fm := mir 3 3 g__law_default
theorem o__law_default (v : Ev K mg base) : DefOk (MM K) P w K mg base 8 "_law_default" "_law_default" (top 45) [] (He.ga K "_law_default") ["_law_known", "_law_gate", "_law_sign"] m__law_default := by
  obtain ⟨fd, F⟩ := v.c.def_ 30 (d := d__law_default) rfl
  exact ⟨fd, F, funD_mirC (M := MM K) F S__law_default (by decide) (fun cdv hc A outer s H E hr tk hp => b__law_default v cdv (code_of (f := (gA "_law_default")) (v.m _ (List.mem_of_getElem? (show tn[1]? = some _ from rfl))) hc) A outer s H E hr tk hp)⟩
theorem f__law_default (v : Ev K mg base) : TS.FnR P w K mg base (L2.CX P w) 8 (He.ga K "_law_default") (spD (MM K) m__law_default) := by
  obtain ⟨fd, F, O⟩ := o__law_default (P := P) (w := w) v
  exact fnR_raw (M := MM K) O (F.bindsN (ps := ["_law_known", "_law_gate", "_law_sign"]) fun _ _ _ _ _ _ us hl => match us, hl with | [_, _, _], _ => rfl)
def is_list : Tg → Option Bool := tabTy ["list"] fun _ => none
theorem is_list_ok : IsT (MM K) ((["list"] : List String).map Value.type) is_list := isT_own0
abbrev g__law_list_right_1a_1 : FS := (sRet (toE (kD (.bl false))))
abbrev g__law_list_right_1 : FS := (sIf (fOr (fNot (fTst (toE (fIsi is_list (vP 3))))) (fTst (fBin gNe (frz (fCal gLen (aOne (vP 3)))) (vP 4)))) g__law_list_right_1a_1 sNil)
abbrev g__law_list_right_2a_1 : FS := (sRet (toE (kD (.bl false))))
abbrev g__law_list_right_2 : FS := (sIf (fOr (fTst (fBin gNe (frz (fCal gSorted (aOne (vP 3)))) (vP 3))) (fTst (fBin gNe (fLenSet (vP 3)) (vP 4)))) g__law_list_right_2a_1 sNil)
abbrev g__law_list_right_3_1a_1 : FS := (sRet (toE (kD (.bl false))))
abbrev g__law_list_right_3_1 : FS := (sIf (fOr (fNot (fTst (toE (fIsi is_int (vP 5))))) (fOr (fTst (toE (fIsi is_bool (vP 5)))) (fTst (fBin gNe (frz (fBin gLt (vI 5) (vP 1))) (frz (fBin gEq (vI 2) (kD (.int 1)))))))) g__law_list_right_3_1a_1 sNil)
abbrev g__law_list_right_3_2a_1 : FS := (sRet (toE (kD (.bl false))))
abbrev g__law_list_right_3_2 : FS := (sIf (fTst (fBin gNe (frz (fBin gGe (frz (fOwn m__law_at (aCons (vI 0) (aCons (vI 5) aNil)))) (vP 1))) (frz (fBin gEq (vI 2) (kD (.int 1)))))) g__law_list_right_3_2a_1 sNil)
abbrev g__law_list_right_3B : FS := (sSeq g__law_list_right_3_1 g__law_list_right_3_2)
abbrev g__law_list_right_3 : FS := (sFor (itSeq (vI 3)) (tName 5) g__law_list_right_3B)
abbrev g__law_list_right_4 : FS := (sRet (toE (kD (.bl true))))
def g__law_list_right : FS := (sSeq g__law_list_right_1 (sSeq g__law_list_right_2 (sSeq g__law_list_right_3 g__law_list_right_4)))
theorem S__law_list_right : FnScope ["_law_table_here", "_law_gate", "_law_sign", "_law_told_here", "_law_many", "_law_x"] ["_law_table_here", "_law_gate", "_law_sign", "_law_told_here", "_law_many"] (defScope (top 46)) := ⟨rfl, rfl, rfl, by decide +kernel, rfl, by decide +kernel, by decide +kernel⟩
theorem kp__law_list_right (v : Ev K mg base) : PySem.W.keepIn K (.ref (He.ga K "_law_list_right")) = true := (v.c.def_ 31 (d := d__law_list_right) rfl).elim fun _ F => F.kp
theorem b__law_list_right (v : Ev K mg base) : BodyOk (MM K) P w K mg base 1 "_law_list_right" (top 46) (He.ga K "_law_list_right") ["_law_table_here", "_law_gate", "_law_sign", "_law_told_here", "_law_many", "_law_x"] g__law_list_right :=
  fun cdv A outer s H E hr tk hp => (dss_cons (ds_if (DW.pt (dw_or (dt_not (dt_val (DI.toE (b_isi (by rfl) (u_isinstance v) (dp_var (pv 3)) (k_ty bt_list (by rfl) (u_list v)) (ClsV.ty "list") is_list_ok)))) (dw_or1 (t_ne hr (DE.frz (b_len (by rfl) (u_len v) (db_one (dp_var (pv 3))))) (dp_var (pv 4)))))) (dss_one (ds_ret (DI.toE di_bl))) dss_nil)
    (dss_cons (ds_if (DW.pt (dw_or (t_ne hr (DE.frz (b_sorted (by rfl) (u_sorted v) (db_one (dp_var (pv 3))))) (dp_var (pv 3))) (dw_or1 (t_ne hr (di_lenSet (by rfl) (by rfl) (u_len v) (by rfl) (u_set v) (dp_var (pv 3))) (dp_var (pv 4)))))) (dss_one (ds_ret (DI.toE di_bl))) dss_nil)
    (dss_cons (ds_for hp (by rfl) (dit_list (di_var (pv 3))) (dg_name (pg_name S__law_list_right.nd (by rfl) (by first | exact Or.inl rfl | exact Or.inr rfl))) (tgt_name 5) (dss_cons (ds_if (DW.pt (dw_or (dt_not (dt_val (DI.toE (b_isi (by rfl) (u_isinstance v) (dp_var (pv 5)) (k_ty bt_int (by rfl) (u_int v)) (ClsV.ty "int") (is_int_ok v))))) (dw_or (dt_val (DI.toE (b_isi (by rfl) (u_isinstance v) (dp_var (pv 5)) (k_ty bt_bool (by rfl) (u_bool v)) (ClsV.ty "bool") (is_bool_ok v)))) (dw_or1 (t_ne hr (DE.frz (x_lt (di_var (pv 5)) (dp_var (pv 1)))) (DE.pk (x_eq hr (di_var (pv 2)) (DI.pk di_int)))))))) (dss_one (ds_ret (DI.toE di_bl))) dss_nil)
    (dss_one (ds_if (t_ne hr (DE.frz (x_ge (DE.frz (d_own (fun h => pe_own ((f__law_at v).mono (by decide)) hr tk (by rfl) (u__law_at v) (kp__law_at v) h) (da_cons (di_var (pv 0)) (da_cons (di_var (pv 5)) da_nil)))) (dp_var (pv 1)))) (DE.pk (x_eq hr (di_var (pv 2)) (DI.pk di_int)))) (dss_one (ds_ret (DI.toE di_bl))) dss_nil))))
    (dss_one (ds_ret (DI.toE di_bl))))))
def m__law_list_right : Fm := mir 6 5 g__law_list_right
theorem o__law_list_right (v : Ev K mg base) : DefOk (MM K) P w K mg base 2 "_law_list_right" "_law_list_right" (top 46) [] (He.ga K "_law_list_right") ["_law_table_here", "_law_gate", "_law_sign", "_law_told_here", "_law_many"] m__law_list_right := by
  obtain ⟨fd, F⟩ := v.c.def_ 31 (d := d__law_list_right) rfl
  exact ⟨fd, F, funD_mir (M := MM K) F S__law_list_right (by decide) (fun cdv A outer s H E hr tk hp => b__law_list_right v cdv A outer s H E hr tk hp)⟩
theorem f__law_list_right (v : Ev K mg base) : TS.FnR P w K mg base (L2.CX P w) 2 (He.ga K "_law_list_right") (spD (MM K) m__law_list_right) := by
  obtain ⟨fd, F, O⟩ := o__law_list_right (P := P) (w := w) v
  exact fnR_raw (M := MM K) O (F.bindsN (ps := ["_law_table_here", "_law_gate", "_law_sign", "_law_told_here", "_law_many"]) fun _ _ _ _ _ _ us hl => match us, hl with | [_, _, _, _, _], _ => rfl)
abbrev g__law_cut_right_1 : FS := (sAsg (fOwn m__law_count (aCons (vI 2) (aCons (vI 3) (aCons (vI 4) aNil)))) (tName 5))
abbrev g__law_cut_right_2 : FS := (sAsg (fLst (aCons (kD (.str "many")) (aCons (frz (fCal gRepr (aOne (vP 5)))) (aCons (kD (.bl true)) aNil)))) (tName 6))
abbrev g__law_cut_right_3 : FS := (sAsg (fOwnIo m__law_draw 0 (aCons (frz (fCal gMax (aCons (kD (.int 1)) (aCons (frz (fCal gMin (aCons (vI 5) (aCons (kD (.int 200)) aNil)))) aNil)))) aNil)) (tName 7))
abbrev g__law_cut_right_4a_1 : FS := (sRet (toE (kD (.bl false))))
abbrev g__law_cut_right_4 : FS := (sIf (fAnd (fTst (fBin gGt (vI 5) (kD (.int 0)))) (fTst (fBin gNe (frzN (fOwn m__law_asked (aCons (vI 1) (aCons (vI 3) (aCons (vI 4) (aCons (vI 7) aNil)))))) (vP 6)))) g__law_cut_right_4a_1 sNil)
abbrev g__law_cut_right_5a_1a_1 : FS := (sRet (toE (kD (.bl false))))
abbrev g__law_cut_right_5a_1 : FS := (sIf (fAnd (fTst (fBin gGt (vI 5) (kD (.int 10000)))) (fTst (fBin gNe (frzN (fOwn m__law_asked (aCons (vI 1) (aCons (vI 3) (aCons (vI 4) (aCons (kD (.int 10000)) aNil)))))) (vP 6)))) g__law_cut_right_5a_1a_1 sNil)
abbrev g__law_cut_right_5a_2 : FS := (sRet (fBin gEq (frzN (fOwn m__law_default (aCons (vI 1) (aCons (vI 3) (aCons (vI 4) aNil))))) (vP 6)))
abbrev g__law_cut_right_5 : FS := (sIf (fTst (fBin gGt (vI 5) (kD (.int 300)))) (sSeq g__law_cut_right_5a_1 g__law_cut_right_5a_2) sNil)
abbrev g__law_cut_right_6 : FE := (fOwn m__law_asked (aCons (vI 1) (aCons (vI 3) (aCons (vI 4) (aCons (vI 5) aNil)))))
abbrev g__law_cut_right_7a_1 : FS := (sRet (toE (kD (.bl false))))
abbrev g__law_cut_right_7 : FS := (sIf (tSee (fOr (fTst (fBin gNe (frz (fBin gIx (vI 8) (kD (.int 0)))) (kD (.str "told")))) (fNot (fTst (fOwn m__law_list_right (aCons (vI 2) (aCons (vI 3) (aCons (vI 4) (aCons (frz (fBin gIx (vI 8) (kD (.int 1)))) (aCons (vI 5) aNil)))))))))) g__law_cut_right_7a_1 sNil)
abbrev g__law_cut_right_8 : FS := (sAsg (fCal gMax (aOne (frz (fLc (stName 13) [13] (itSeq (vI 2)) tTrue (frz (fCal gAbs (aOne (vP 13)))))))) (tName 9))
abbrev g__law_cut_right_9a_1 : FS := (sRet (toE (kD (.bl false))))
abbrev g__law_cut_right_9 : FS := (sIf (tSee (fAnd (fTst (fBin gLt (vI 9) (kD (.int 2000)))) (fTst (fBin gNe (frz (fBin gIx (vI 8) (kD (.int 1)))) (frz (fOwn m__law_found (aCons (vI 2) (aCons (vI 3) (aCons (vI 4) aNil))))))))) g__law_cut_right_9a_1 sNil)
abbrev g__law_cut_right_10 : FS := (sAsg (toE (frzN (fOwn m__law_asked (aCons (vI 1) (aCons (frz (fBin gAdd (vI 3) (fProp ptab_period (vI 1)))) (aCons (vI 4) (aCons (frz (fBin gAdd (vI 5) (frz (fOwnIo m__law_draw 0 (aCons (kD (.int 40)) aNil))))) aNil))))))) (tName 10))
abbrev g__law_cut_right_11a_1 : FS := (sRet (toE (kD (.bl false))))
abbrev g__law_cut_right_11 : FS := (sIf (tSee (fTst (fBin gNe (vI 10) (frz (fLst (aCons (kD (.str "told")) (aCons (frz (fLc (stName 14) [14] (itSeq (frz (fBin gIx (vI 8) (kD (.int 1))))) tTrue (frz (fBin gAdd (vI 14) (fProp ptab_period (vI 1)))))) aNil))))))) g__law_cut_right_11a_1 sNil)
abbrev g__law_cut_right_12 : FS := (sAsg (fSee (fCal gList (aOne (frz (fBin gIx (vI 8) (kD (.int 1))))))) (tName 11))
abbrev g__law_cut_right_14 : FS := (sAsg (fIfE (fTst (fBin gGt (vI 5) (kD (.int 100)))) (toE (vI 6)) (fLst (aCons (kD (.str "told")) (aCons (vI 11) aNil)))) (tName 12))
abbrev g__law_cut_right_15a_1 : FS := (sRet (toE (kD (.bl false))))
abbrev g__law_cut_right_15 : FS := (sIf (fTst (fBin gNe (frzN (fOwn m__law_default (aCons (vI 1) (aCons (vI 3) (aCons (vI 4) aNil))))) (vP 12))) g__law_cut_right_15a_1 sNil)
abbrev g__law_cut_right_16 : FS := (sRet (fBin gEq (frzN (fOwn m__law_asked (aCons (vI 1) (aCons (vI 3) (aCons (vI 4) (aCons (kD (.int 10000)) aNil)))))) (frz (fLst (aCons (kD (.str "told")) (aCons (vI 11) aNil))))))
def g__law_cut_right : FS := (sSeq g__law_cut_right_1 (sSeq g__law_cut_right_2 (sSeq g__law_cut_right_3 (sSeq g__law_cut_right_4 (sSeq g__law_cut_right_5 (sHold g__law_cut_right_6 8 (sSeq g__law_cut_right_7 (sSeq g__law_cut_right_8 (sSeq g__law_cut_right_9 (sSeq g__law_cut_right_10 (sSeq g__law_cut_right_11 (sSeq g__law_cut_right_12 (sMutN 8 (kD (.int 1)) mAppend (aCons (kD .non) aNil) (sSeq g__law_cut_right_14 (sSeq g__law_cut_right_15 (sSeq g__law_cut_right_16 sNil))))))))))))))))
theorem S__law_cut_right : FnScope ["_law_pot_here", "_law_known", "_law_table_here", "_law_gate", "_law_sign", "_law_many", "_law_due", "_law_fewer", "_law_told_here", "_law_wide", "_law_further", "_law_kept", "_law_default_here", "_law_offset", "_law_x"] ["_law_pot_here", "_law_known", "_law_table_here", "_law_gate", "_law_sign"] (defScope (top 47)) := ⟨rfl, rfl, rfl, by decide +kernel, rfl, by decide +kernel, by decide +kernel⟩
theorem kp__law_cut_right (v : Ev K mg base) : PySem.W.keepIn K (.ref (He.ga K "_law_cut_right")) = true := (v.c.def_ 32 (d := d__law_cut_right) rfl).elim fun _ F => F.kp
theorem b__law_cut_right (v : Ev K mg base) : BodyOk (MM K) P w K mg base 8 "_law_cut_right" (top 47) (He.ga K "_law_cut_right") ["_law_pot_here", "_law_known", "_law_table_here", "_law_gate", "_law_sign", "_law_many", "_law_due", "_law_fewer", "_law_told_here", "_law_wide", "_law_further", "_law_kept", "_law_default_here", "_law_offset", "_law_x"] g__law_cut_right :=
  fun cdv A outer s H E hr tk hp => (dss_cons (ds_set (i := 5) S__law_cut_right.nd (by rfl) (by first | exact Or.inl rfl | exact Or.inr rfl) (d_own (fun h => pe_own ((f__law_count v).mono (by decide)) hr tk (by rfl) (u__law_count v) (kp__law_count v) h) (da_cons (di_var (pv 2)) (da_cons (di_var (pv 3)) (da_cons (di_var (pv 4)) da_nil)))))
    (dss_cons (ds_set (i := 6) S__law_cut_right.nd (by rfl) (by first | exact Or.inl rfl | exact Or.inr rfl) (de_lst (da_cons di_str (da_cons (DE.frz (b_reprD hr (by rfl) (u_repr v) (db_one (dp_var (pv 5))))) (da_cons di_bl da_nil)))))
    (dss_cons (ds_set (i := 7) S__law_cut_right.nd (by rfl) (by first | exact Or.inl rfl | exact Or.inr rfl) (d_ownIo (fun h => pe_own ((f__law_draw v).mono (by decide)) hr tk (by rfl) (u__law_draw v) (kp__law_draw v) h) (pv 0) (da_cons (DE.frz (b_max (by rfl) (by rfl) (u_max v) (DA.b (da_cons di_int (da_cons (DE.frz (b_min (by rfl) (by rfl) (u_min v) (DA.b (da_cons (di_var (pv 5)) (da_cons di_int da_nil))))) da_nil))))) da_nil)))
    (dss_cons (ds_if (DW.pt (dw_and (t_gt (di_var (pv 5)) (DI.pk di_int)) (dw_and1 (t_ne hr (DE.frzN (d_own (fun h => pe_own ((f__law_asked v).mono (by decide)) hr tk (by rfl) (u__law_asked v) (kp__law_asked v) h) (da_cons (di_var (pv 1)) (da_cons (di_var (pv 3)) (da_cons (di_var (pv 4)) (da_cons (di_var (pv 7)) da_nil)))))) (dp_var (pv 6)))))) (dss_one (ds_ret (DI.toE di_bl))) dss_nil)
    (dss_cons (ds_if (t_gt (di_var (pv 5)) (DI.pk di_int)) (dss_cons (ds_if (DW.pt (dw_and (t_gt (di_var (pv 5)) (DI.pk di_int)) (dw_and1 (t_ne hr (DE.frzN (d_own (fun h => pe_own ((f__law_asked v).mono (by decide)) hr tk (by rfl) (u__law_asked v) (kp__law_asked v) h) (da_cons (di_var (pv 1)) (da_cons (di_var (pv 3)) (da_cons (di_var (pv 4)) (da_cons di_int da_nil)))))) (dp_var (pv 6)))))) (dss_one (ds_ret (DI.toE di_bl))) dss_nil)
    (dss_one (ds_ret (x_eq hr (DE.frzN (d_own (fun h => pe_own ((f__law_default v).mono (by decide)) hr tk (by rfl) (u__law_default v) (kp__law_default v) h) (da_cons (di_var (pv 1)) (da_cons (di_var (pv 3)) (da_cons (di_var (pv 4)) da_nil))))) (dp_var (pv 6)))))) dss_nil)
    (dss_hold S__law_cut_right.nd (by rfl) (by first | exact Or.inl rfl | exact Or.inr rfl) (d_own (fun h => pe_own ((f__law_asked v).mono (by decide)) hr tk (by rfl) (u__law_asked v) (kp__law_asked v) h) (da_cons (di_var (pv 1)) (da_cons (di_var (pv 3)) (da_cons (di_var (pv 4)) (da_cons (di_var (pv 5)) da_nil)))))
    (dns_cons (ds_if (dt_see (DW.pt (dw_or (t_ne hr (DE.frz (x_ix hr (di_var (pv 8)) (DI.pk di_int))) (DI.pk di_str)) (dw_or1 (dt_not (dt_val (d_own (fun h => pe_own ((f__law_list_right v).mono (by decide)) hr tk (by rfl) (u__law_list_right v) (kp__law_list_right v) h) (da_cons (di_var (pv 2)) (da_cons (di_var (pv 3)) (da_cons (di_var (pv 4)) (da_cons (DE.frz (x_ix hr (di_var (pv 8)) (DI.pk di_int))) (da_cons (di_var (pv 5)) da_nil)))))))))))) (dss_one (ds_ret (DI.toE di_bl))) dss_nil)
    (dns_cons (ds_set (i := 9) S__law_cut_right.nd (by rfl) (by first | exact Or.inl rfl | exact Or.inr rfl) (b_max (by rfl) (by rfl) (u_max v) (db_one (DE.pk (de_lc (own := [("_law_offset", 13)]) (by rfl) (by rfl) S__law_cut_right.nd (dit_list (di_var (pv 2))) (blkOk_by (by kernel_rfl)) (st_name 13) (fun _ _ _ _ _ => pg_name S__law_cut_right.nd (by rfl) (by first | exact Or.inl rfl | exact Or.inr rfl)) (fun _ _ _ _ _ => pts_no) (fun _ _ _ _ _ => (DE.frz (b_abs (by rfl) (u_abs v) (db_one (dp_var (pv 13)))))))))))
    (dns_cons (ds_if (dt_see (DW.pt (dw_and (t_lt (di_var (pv 9)) (DI.pk di_int)) (dw_and1 (t_ne hr (DE.frz (x_ix hr (di_var (pv 8)) (DI.pk di_int))) (DE.pk (d_own (fun h => pe_own ((f__law_found v).mono (by decide)) hr tk (by rfl) (u__law_found v) (kp__law_found v) h) (da_cons (di_var (pv 2)) (da_cons (di_var (pv 3)) (da_cons (di_var (pv 4)) da_nil)))))))))) (dss_one (ds_ret (DI.toE di_bl))) dss_nil)
    (dns_cons (ds_set (i := 10) S__law_cut_right.nd (by rfl) (by first | exact Or.inl rfl | exact Or.inr rfl) (DI.toE (DE.frzN (d_own (fun h => pe_own ((f__law_asked v).mono (by decide)) hr tk (by rfl) (u__law_asked v) (kp__law_asked v) h) (da_cons (di_var (pv 1)) (da_cons (DE.frz (x_add (di_var (pv 3)) (DI.pk (di_prop (propOk_of (PT_period v)) (hr.mono (by decide)) (di_var (pv 1)))))) (da_cons (di_var (pv 4)) (da_cons (DE.frz (x_add (di_var (pv 5)) (DE.pk (d_ownIo (fun h => pe_own ((f__law_draw v).mono (by decide)) hr tk (by rfl) (u__law_draw v) (kp__law_draw v) h) (pv 0) (da_cons di_int da_nil))))) da_nil))))))))
    (dns_cons (ds_if (dt_see (t_ne hr (di_var (pv 10)) (DE.pk (de_lst (da_cons di_str (da_cons (DE.frz (de_lc (own := [("_law_x", 14)]) (by rfl) (by rfl) S__law_cut_right.nd (dit_list (DE.frz (x_ix hr (di_var (pv 8)) (DI.pk di_int)))) (blkOk_by (by kernel_rfl)) (st_name 14) (fun _ _ _ _ _ => pg_name S__law_cut_right.nd (by rfl) (by first | exact Or.inl rfl | exact Or.inr rfl)) (fun _ _ _ _ _ => pts_no) (fun _ _ _ _ _ => (DE.frz (x_add (di_var (pv 14)) (DI.pk (di_prop (propOk_of (PT_period v)) (hr.mono (by decide)) (di_var (pv 1))))))))) da_nil)))))) (dss_one (ds_ret (DI.toE di_bl))) dss_nil)
    (dns_cons (ds_set (i := 11) S__law_cut_right.nd (by rfl) (by first | exact Or.inl rfl | exact Or.inr rfl) (de_see (b_list (by rfl) (u_list v) (db_one (DE.pk (x_ix hr (di_var (pv 8)) (DI.pk di_int)))))))
    (dns_append (pv 8) di_int (da_cons di_non da_nil) hr
    (dns_cons (ds_set (i := 12) S__law_cut_right.nd (by rfl) (by first | exact Or.inl rfl | exact Or.inr rfl) (de_if (t_gt (di_var (pv 5)) (DI.pk di_int)) (DI.toE (di_var (pv 6))) (de_lst (da_cons di_str (da_cons (di_var (pv 11)) da_nil)))))
    (dns_cons (ds_if (t_ne hr (DE.frzN (d_own (fun h => pe_own ((f__law_default v).mono (by decide)) hr tk (by rfl) (u__law_default v) (kp__law_default v) h) (da_cons (di_var (pv 1)) (da_cons (di_var (pv 3)) (da_cons (di_var (pv 4)) da_nil))))) (dp_var (pv 12))) (dss_one (ds_ret (DI.toE di_bl))) dss_nil)
    (dns_cons (ds_ret (x_eq hr (DE.frzN (d_own (fun h => pe_own ((f__law_asked v).mono (by decide)) hr tk (by rfl) (u__law_asked v) (kp__law_asked v) h) (da_cons (di_var (pv 1)) (da_cons (di_var (pv 3)) (da_cons (di_var (pv 4)) (da_cons di_int da_nil)))))) (DE.pk (de_lst (da_cons di_str (da_cons (di_var (pv 11)) da_nil))))))
    (dns_of dss_nil)))))))))))))))))
def m__law_cut_right : Fm := mir 15 5 g__law_cut_right
theorem o__law_cut_right (v : Ev K mg base) : DefOk (MM K) P w K mg base 9 "_law_cut_right" "_law_cut_right" (top 47) [] (He.ga K "_law_cut_right") ["_law_pot_here", "_law_known", "_law_table_here", "_law_gate", "_law_sign"] m__law_cut_right := by
  obtain ⟨fd, F⟩ := v.c.def_ 32 (d := d__law_cut_right) rfl
  exact ⟨fd, F, funD_mir (M := MM K) F S__law_cut_right (by decide) (fun cdv A outer s H E hr tk hp => b__law_cut_right v cdv A outer s H E hr tk hp)⟩
theorem f__law_cut_right (v : Ev K mg base) : TS.FnR P w K mg base (L2.CX P w) 9 (He.ga K "_law_cut_right") (spD (MM K) m__law_cut_right) := by
  obtain ⟨fd, F, O⟩ := o__law_cut_right (P := P) (w := w) v
  exact fnR_raw (M := MM K) O (F.bindsN (ps := ["_law_pot_here", "_law_known", "_law_table_here", "_law_gate", "_law_sign"]) fun _ _ _ _ _ _ us hl => match us, hl with | [_, _, _, _, _], _ => rfl)
abbrev g__law_long_right_1 : FS := (sAsg (fOwnIo m__law_mixed 0 (aCons (frz (fLRg1 (frz (fBin gAdd (kD (.int 61)) (frz (fOwnIo m__law_draw 0 (aCons (kD (.int 400)) aNil))))))) aNil)) (tName 1))
abbrev g__law_long_right_2 : FS := (sAsg (fLc (stPair 5 6) [5, 6] (itEnum (vI 1)) tTrue (frz (fBin gSub (vI 6) (vP 5)))) (tName 2))
abbrev g__law_long_right_3 : FS := (sAsg (toE (fTup (aCons (frz (fMake 0 m_Plan___init__ (aCons (vI 2) aNil))) (aCons (frz (fOwnIo m__law_great 0 (aCons (kD (.int 9)) aNil))) aNil)))) (tTup 2 (tsCons (tName 3) (tsCons (tName 4) tsNil))))
abbrev g__law_long_right_4 : FS := (sRet (fCal gAll (aOne (frz (fLc (stName 7) [7] (itTup (fTup (aCons (kD (.int 1)) (aCons (fUnI (fun i => -i) (kD (.int 1))) aNil)))) tTrue (frz (fOwnIo m__law_cut_right 0 (aCons (vI 3) (aCons (vI 2) (aCons (vI 4) (aCons (vI 7) aNil)))))))))))
def g__law_long_right : FS := (sSeq g__law_long_right_1 (sSeq g__law_long_right_2 (sSeq g__law_long_right_3 g__law_long_right_4)))
theorem S__law_long_right : FnScope ["_law_pot_here", "_law_goals", "_law_table_here", "_law_known", "_law_gate", "_law_place", "_law_goal", "_law_sign"] ["_law_pot_here"] (defScope (top 49)) := ⟨rfl, rfl, rfl, by decide +kernel, rfl, by decide +kernel, by decide +kernel⟩
theorem kp__law_long_right (v : Ev K mg base) : PySem.W.keepIn K (.ref (He.ga K "_law_long_right")) = true := (v.c.def_ 33 (d := d__law_long_right) rfl).elim fun _ F => F.kp
theorem b__law_long_right (v : Ev K mg base) : BodyOk (MM K) P w K mg base 9 "_law_long_right" (top 49) (He.ga K "_law_long_right") ["_law_pot_here", "_law_goals", "_law_table_here", "_law_known", "_law_gate", "_law_place", "_law_goal", "_law_sign"] g__law_long_right :=
  fun cdv A outer s H E hr tk hp => (dss_cons (ds_set (i := 1) S__law_long_right.nd (by rfl) (by first | exact Or.inl rfl | exact Or.inr rfl) (d_ownIo (fun h => pe_own ((f__law_mixed v).mono (by decide)) hr tk (by rfl) (u__law_mixed v) (kp__law_mixed v) h) (pv 0) (da_cons (DE.frz (de_lrg1 (by rfl) (by rfl) (u_list v) (by rfl) (u_range v) (DE.frz (x_add di_int (DE.pk (d_ownIo (fun h => pe_own ((f__law_draw v).mono (by decide)) hr tk (by rfl) (u__law_draw v) (kp__law_draw v) h) (pv 0) (da_cons di_int da_nil))))))) da_nil)))
    (dss_cons (ds_set (i := 2) S__law_long_right.nd (by rfl) (by first | exact Or.inl rfl | exact Or.inr rfl) (de_lc (own := [("_law_place", 5), ("_law_goal", 6)]) (by rfl) (by rfl) S__law_long_right.nd (dit_enum (by rfl) (u_enumerate v) (di_var (pv 1))) (blkOk_by (by kernel_rfl)) (st_pair (i := 5) (j := 6) (by decide)) (fun _ _ _ _ _ => pg_tup (by rfl) (pgs_cons (pg_name S__law_long_right.nd (by rfl) (by first | exact Or.inl rfl | exact Or.inr rfl)) (pgs_cons (pg_name S__law_long_right.nd (by rfl) (by first | exact Or.inl rfl | exact Or.inr rfl)) pgs_nil))) (fun _ _ _ _ _ => pts_no) (fun _ _ _ _ _ => (DE.frz (x_sub (di_var (pv 6)) (dp_var (pv 5)))))))
    (dss_cons (ds_asg (DI.toE (di_tup (da_cons (DE.frz (d_make (fun h => pe_makeS (He.mkr_ok (v.c.fact 38 (f := .he (.mkr "Plan")))) ((f_Plan___init__ v).mono (by decide)) (hr.mono (by decide : 5 ≤ 9)) tk (by rfl) (u_Plan v) h) rfl (da_cons (di_var (pv 2)) da_nil))) (da_cons (DE.frz (d_ownIo (fun h => pe_own ((f__law_great v).mono (by decide)) hr tk (by rfl) (u__law_great v) (kp__law_great v) h) (pv 0) (da_cons di_int da_nil))) da_nil)))) (dg_tup (by rfl) (dgs_cons (dg_name (pg_name S__law_long_right.nd (by rfl) (by first | exact Or.inl rfl | exact Or.inr rfl))) (dgs_cons (dg_name (pg_name S__law_long_right.nd (by rfl) (by first | exact Or.inl rfl | exact Or.inr rfl))) dgs_nil))) (tgt_tup (tgs_cons (tgt_name 3) (tgs_cons (tgt_name 4) tgs_nil))))
    (dss_one (ds_ret (b_all (by rfl) (by rfl) (u_all v) (db_one (DE.pk (de_lc (own := [("_law_sign", 7)]) (by rfl) (by rfl) S__law_long_right.nd (dit_tup (di_tup (da_cons di_int (da_cons (di_neg di_int) da_nil)))) (blkOk_by (by kernel_rfl)) (st_name 7) (fun _ _ _ _ _ => pg_name S__law_long_right.nd (by rfl) (by first | exact Or.inl rfl | exact Or.inr rfl)) (fun _ _ _ _ _ => pts_no) (fun _ _ _ _ _ => (DE.frz (d_ownIo (fun h => pe_own ((f__law_cut_right v).mono (by decide)) hr TS.takes0 (by rfl) (u__law_cut_right v) (kp__law_cut_right v) h) (pv 0) (da_cons (di_var (pv 3)) (da_cons (di_var (pv 2)) (da_cons (di_var (pv 4)) (da_cons (di_var (pv 7)) da_nil))))))))))))))))
def m__law_long_right : Fm := mir 8 1 g__law_long_right
theorem o__law_long_right (v : Ev K mg base) : DefOk (MM K) P w K mg base 10 "_law_long_right" "_law_long_right" (top 49) [] (He.ga K "_law_long_right") ["_law_pot_here"] m__law_long_right := by
  obtain ⟨fd, F⟩ := v.c.def_ 33 (d := d__law_long_right) rfl
  exact ⟨fd, F, funD_mir (M := MM K) F S__law_long_right (by decide) (fun cdv A outer s H E hr tk hp => b__law_long_right v cdv A outer s H E hr tk hp)⟩
theorem f__law_long_right (v : Ev K mg base) : TS.FnR P w K mg base (L2.CX P w) 10 (He.ga K "_law_long_right") (spD (MM K) m__law_long_right) := by
  obtain ⟨fd, F, O⟩ := o__law_long_right (P := P) (w := w) v
  exact fnR_raw (M := MM K) O (F.bindsN (ps := ["_law_pot_here"]) fun _ _ _ _ _ _ us hl => match us, hl with | [_], _ => rfl)
abbrev g__law_turns_1a_1 : FS := (sRet (toE (kD (.int 0))))
abbrev g__law_turns_1 : FS := (sIf (fTst (fBin gEq (vI 1) (kD (.int 0)))) g__law_turns_1a_1 sNil)
abbrev g__law_turns_2a_1 : FS := (sRet (fBin gSub (frz (fOwnIo m__law_draw 0 (aCons (kD (.int 3)) aNil))) (kD (.int 1))))
abbrev g__law_turns_2 : FS := (sIf (fTst (fBin gEq (vI 1) (kD (.int 1)))) g__law_turns_2a_1 sNil)
abbrev g__law_turns_3 : FS := (sRet (fBin gIx (frz (fLst (aCons (frz (fBin gSub (frz (fOwnIo m__law_draw 0 (aCons (kD (.int 41)) aNil))) (kD (.int 20)))) (aCons (frz (fOwnIo m__law_great 0 (aCons (kD (.int 3)) aNil))) (aCons (kD (.int 0)) (aCons (frz (fBin gSub (frz (fOwnIo m__law_draw 0 (aCons (kD (.int 5)) aNil))) (kD (.int 2)))) aNil)))))) (frz (fOwnIo m__law_draw 0 (aCons (kD (.int 4)) aNil)))))
def g__law_turns : FS := (sSeq g__law_turns_1 (sSeq g__law_turns_2 g__law_turns_3))
theorem S__law_turns : FnScope ["_law_pot_here", "_law_way"] ["_law_pot_here", "_law_way"] (defScope (top 37)) := ⟨rfl, rfl, rfl, by decide +kernel, rfl, by decide +kernel, by decide +kernel⟩
theorem kp__law_turns (v : Ev K mg base) : PySem.W.keepIn K (.ref (He.ga K "_law_turns")) = true := (v.c.def_ 34 (d := d__law_turns) rfl).elim fun _ F => F.kp
theorem b__law_turns (v : Ev K mg base) : BodyOk (MM K) P w K mg base 3 "_law_turns" (top 37) (He.ga K "_law_turns") ["_law_pot_here", "_law_way"] g__law_turns :=
  fun cdv A outer s H E hr tk hp => (dss_cons (ds_if (t_eq hr (di_var (pv 1)) (DI.pk di_int)) (dss_one (ds_ret (DI.toE di_int))) dss_nil)
    (dss_cons (ds_if (t_eq hr (di_var (pv 1)) (DI.pk di_int)) (dss_one (ds_ret (x_sub (DE.frz (d_ownIo (fun h => pe_own ((f__law_draw v).mono (by decide)) hr tk (by rfl) (u__law_draw v) (kp__law_draw v) h) (pv 0) (da_cons di_int da_nil))) (DI.pk di_int)))) dss_nil)
    (dss_one (ds_ret (x_ix hr (DE.frz (de_lst (da_cons (DE.frz (x_sub (DE.frz (d_ownIo (fun h => pe_own ((f__law_draw v).mono (by decide)) hr tk (by rfl) (u__law_draw v) (kp__law_draw v) h) (pv 0) (da_cons di_int da_nil))) (DI.pk di_int))) (da_cons (DE.frz (d_ownIo (fun h => pe_own ((f__law_great v).mono (by decide)) hr tk (by rfl) (u__law_great v) (kp__law_great v) h) (pv 0) (da_cons di_int da_nil))) (da_cons di_int (da_cons (DE.frz (x_sub (DE.frz (d_ownIo (fun h => pe_own ((f__law_draw v).mono (by decide)) hr tk (by rfl) (u__law_draw v) (kp__law_draw v) h) (pv 0) (da_cons di_int da_nil))) (DI.pk di_int))) da_nil)))))) (DE.pk (d_ownIo (fun h => pe_own ((f__law_draw v).mono (by decide)) hr tk (by rfl) (u__law_draw v) (kp__law_draw v) h) (pv 0) (da_cons di_int da_nil))))))))
def m__law_turns : Fm := mir 2 2 g__law_turns
theorem o__law_turns (v : Ev K mg base) : DefOk (MM K) P w K mg base 4 "_law_turns" "_law_turns" (top 37) [] (He.ga K "_law_turns") ["_law_pot_here", "_law_way"] m__law_turns := by
  obtain ⟨fd, F⟩ := v.c.def_ 34 (d := d__law_turns) rfl
  exact ⟨fd, F, funD_mir (M := MM K) F S__law_turns (by decide) (fun cdv A outer s H E hr tk hp => b__law_turns v cdv A outer s H E hr tk hp)⟩
theorem f__law_turns (v : Ev K mg base) : TS.FnR P w K mg base (L2.CX P w) 4 (He.ga K "_law_turns") (spD (MM K) m__law_turns) := by
  obtain ⟨fd, F, O⟩ := o__law_turns (P := P) (w := w) v
  exact fnR_raw (M := MM K) O (F.bindsN (ps := ["_law_pot_here", "_law_way"]) fun _ _ _ _ _ _ us hl => match us, hl with | [_, _], _ => rfl)
abbrev g__law_table_1 : FS := (sAsg (toE (fTup (aCons (frz (fOwnIo m__law_mixed 0 (aCons (frz (fLRg1 (vI 1))) aNil))) (aCons (frz (fOwnIo m__law_draw 0 (aCons (kD (.int 4)) aNil))) aNil)))) (tTup 2 (tsCons (tName 3) (tsCons (tName 4) tsNil))))
abbrev g__law_table_2 : FS := (sRet (fLc (stName 5) [5] (itRg1 (vI 1)) tTrue (frz (fBin gAdd (frz (fBin gSub (frz (fBin gIx (vI 3) (vP 5))) (vP 5))) (frz (fBin gMul (frz (fBin gMul (vI 1) (vP 2))) (frz (fOwnIo m__law_turns 0 (aCons (vI 4) aNil)))))))))
def g__law_table : FS := (sSeq g__law_table_1 g__law_table_2)
theorem S__law_table : FnScope ["_law_pot_here", "_law_many", "_law_factor", "_law_goals", "_law_way", "_law_place"] ["_law_pot_here", "_law_many", "_law_factor"] (defScope (top 38)) := ⟨rfl, rfl, rfl, by decide +kernel, rfl, by decide +kernel, by decide +kernel⟩
theorem kp__law_table (v : Ev K mg base) : PySem.W.keepIn K (.ref (He.ga K "_law_table")) = true := (v.c.def_ 35 (d := d__law_table) rfl).elim fun _ F => F.kp
theorem b__law_table (v : Ev K mg base) : BodyOk (MM K) P w K mg base 4 "_law_table" (top 38) (He.ga K "_law_table") ["_law_pot_here", "_law_many", "_law_factor", "_law_goals", "_law_way", "_law_place"] g__law_table :=
  fun cdv A outer s H E hr tk hp => (dss_cons (ds_asg (DI.toE (di_tup (da_cons (DE.frz (d_ownIo (fun h => pe_own ((f__law_mixed v).mono (by decide)) hr tk (by rfl) (u__law_mixed v) (kp__law_mixed v) h) (pv 0) (da_cons (DE.frz (de_lrg1 (by rfl) (by rfl) (u_list v) (by rfl) (u_range v) (di_var (pv 1)))) da_nil))) (da_cons (DE.frz (d_ownIo (fun h => pe_own ((f__law_draw v).mono (by decide)) hr tk (by rfl) (u__law_draw v) (kp__law_draw v) h) (pv 0) (da_cons di_int da_nil))) da_nil)))) (dg_tup (by rfl) (dgs_cons (dg_name (pg_name S__law_table.nd (by rfl) (by first | exact Or.inl rfl | exact Or.inr rfl))) (dgs_cons (dg_name (pg_name S__law_table.nd (by rfl) (by first | exact Or.inl rfl | exact Or.inr rfl))) dgs_nil))) (tgt_tup (tgs_cons (tgt_name 3) (tgs_cons (tgt_name 4) tgs_nil))))
    (dss_one (ds_ret (de_lc (own := [("_law_place", 5)]) (by rfl) (by rfl) S__law_table.nd (dit_rg1 (by rfl) (u_range v) (di_var (pv 1))) (blkOk_by (by kernel_rfl)) (st_name 5) (fun _ _ _ _ _ => pg_name S__law_table.nd (by rfl) (by first | exact Or.inl rfl | exact Or.inr rfl)) (fun _ _ _ _ _ => pts_no) (fun _ _ _ _ _ => (DE.frz (x_add (DE.frz (x_sub (DE.frz (x_ix hr (di_var (pv 3)) (dp_var (pv 5)))) (dp_var (pv 5)))) (DE.pk (x_mul (DE.frz (x_mul (di_var (pv 1)) (dp_var (pv 2)))) (DE.pk (d_ownIo (fun h => pe_own ((f__law_turns v).mono (by decide)) hr TS.takes0 (by rfl) (u__law_turns v) (kp__law_turns v) h) (pv 0) (da_cons (di_var (pv 4)) da_nil))))))))))))
def m__law_table : Fm := mir 6 3 g__law_table
theorem o__law_table (v : Ev K mg base) : DefOk (MM K) P w K mg base 5 "_law_table" "_law_table" (top 38) [] (He.ga K "_law_table") ["_law_pot_here", "_law_many", "_law_factor"] m__law_table := by
  obtain ⟨fd, F⟩ := v.c.def_ 35 (d := d__law_table) rfl
  exact ⟨fd, F, funD_mir (M := MM K) F S__law_table (by decide) (fun cdv A outer s H E hr tk hp => b__law_table v cdv A outer s H E hr tk hp)⟩
theorem f__law_table (v : Ev K mg base) : TS.FnR P w K mg base (L2.CX P w) 5 (He.ga K "_law_table") (spD (MM K) m__law_table) := by
  obtain ⟨fd, F, O⟩ := o__law_table (P := P) (w := w) v
  exact fnR_raw (M := MM K) O (F.bindsN (ps := ["_law_pot_here", "_law_many", "_law_factor"]) fun _ _ _ _ _ _ us hl => match us, hl with | [_, _, _], _ => rfl)
abbrev g__law_right_1a_1 : FS := (sRet (toE (kD (.bl false))))
abbrev g__law_right_1 : FS := (sIf (fAnd (fTst (fBin gEq (frz (fOwnIo m__law_draw 0 (aCons (kD (.int 9)) aNil))) (kD (.int 0)))) (fNot (fTst (fOwnIo m__law_far_right 0 aNil)))) g__law_right_1a_1 sNil)
abbrev g__law_right_2a_1 : FS := (sRet (toE (kD (.bl false))))
abbrev g__law_right_2 : FS := (sIf (fAnd (fTst (fBin gEq (frz (fOwnIo m__law_draw 0 (aCons (kD (.int 30)) aNil))) (kD (.int 0)))) (fNot (fTst (fOwnIo m__law_long_right 0 aNil)))) g__law_right_2a_1 sNil)
abbrev g__law_right_3 : FS := (sAsg (fOwnIo m__law_table 0 (aCons (frz (fIfE (fTst (fBin gEq (frz (fOwnIo m__law_draw 0 (aCons (kD (.int 12)) aNil))) (kD (.int 0)))) (toE (kD (.int 60))) (fBin gAdd (kD (.int 1)) (frz (fOwnIo m__law_draw 0 (aCons (kD (.int 12)) aNil)))))) (aCons (kD (.int 1)) aNil))) (tName 1))
abbrev g__law_right_4 : FS := (sPar 3 4 (fMake 0 m_Plan___init__ (aCons (vI 1) aNil)) (fCal gRepr (aOne (vP 1))))
abbrev g__law_right_5_1_1a_1 : FS := (sRet (toE (kD (.bl false))))
abbrev g__law_right_5_1_1 : FS := (sIf (fNot (fTst (fOwnIo m__law_cut_right 0 (aCons (vI 3) (aCons (vI 1) (aCons (vI 2) (aCons (vI 5) aNil))))))) g__law_right_5_1_1a_1 sNil)
abbrev g__law_right_5_1B : FS := g__law_right_5_1_1
abbrev g__law_right_5_1 : FS := (sFor (itTup (fTup (aCons (kD (.int 1)) (aCons (fUnI (fun i => -i) (kD (.int 1))) aNil)))) (tName 5) g__law_right_5_1B)
abbrev g__law_right_5B : FS := g__law_right_5_1
abbrev g__law_right_5 : FS := (sFor (itSeq (frz (fLst (aCons (frz (fBin gSub (frz (fOwnIo m__law_draw 0 (aCons (kD (.int 41)) aNil))) (kD (.int 20)))) (aCons (frz (fOwnIo m__law_great 0 (aCons (kD (.int 9)) aNil))) (aCons (kD (.int 0)) aNil)))))) (tName 2) g__law_right_5B)
abbrev g__law_right_6 : FS := (sRet (fBin gEq (frz (fCal gRepr (aOne (vP 1)))) (vP 4)))
def g__law_right : FS := (sSeq g__law_right_1 (sSeq g__law_right_2 (sSeq g__law_right_3 (sSeq g__law_right_4 (sSeq g__law_right_5 g__law_right_6)))))
theorem S__law_right : FnScope ["_law_pot_here", "_law_table_here", "_law_gate", "_law_known", "_law_shown", "_law_sign"] ["_law_pot_here"] (defScope (top 50)) := ⟨rfl, rfl, rfl, by decide +kernel, rfl, by decide +kernel, by decide +kernel⟩
theorem kp__law_right (v : Ev K mg base) : PySem.W.keepIn K (.ref (He.ga K "_law_right")) = true := (v.c.def_ 36 (d := d__law_right) rfl).elim fun _ F => F.kp
theorem b__law_right (v : Ev K mg base) : BodyOk (MM K) P w K mg base 10 "_law_right" (top 50) (He.ga K "_law_right") ["_law_pot_here", "_law_table_here", "_law_gate", "_law_known", "_law_shown", "_law_sign"] g__law_right :=
  fun cdv A outer s H E hr tk hp => (dss_cons (ds_if (DW.pt (dw_and (t_eq hr (DE.frz (d_ownIo (fun h => pe_own ((f__law_draw v).mono (by decide)) hr tk (by rfl) (u__law_draw v) (kp__law_draw v) h) (pv 0) (da_cons di_int da_nil))) (DI.pk di_int)) (dw_and1 (dt_not (dt_val (d_ownIo (fun h => pe_own ((f__law_far_right v).mono (by decide)) hr tk (by rfl) (u__law_far_right v) (kp__law_far_right v) h) (pv 0) da_nil)))))) (dss_one (ds_ret (DI.toE di_bl))) dss_nil)
    (dss_cons (ds_if (DW.pt (dw_and (t_eq hr (DE.frz (d_ownIo (fun h => pe_own ((f__law_draw v).mono (by decide)) hr tk (by rfl) (u__law_draw v) (kp__law_draw v) h) (pv 0) (da_cons di_int da_nil))) (DI.pk di_int)) (dw_and1 (dt_not (dt_val (d_ownIo (fun h => pe_own ((f__law_long_right v).mono (by decide)) hr tk (by rfl) (u__law_long_right v) (kp__law_long_right v) h) (pv 0) da_nil)))))) (dss_one (ds_ret (DI.toE di_bl))) dss_nil)
    (dss_cons (ds_set (i := 1) S__law_right.nd (by rfl) (by first | exact Or.inl rfl | exact Or.inr rfl) (d_ownIo (fun h => pe_own ((f__law_table v).mono (by decide)) hr tk (by rfl) (u__law_table v) (kp__law_table v) h) (pv 0) (da_cons (DE.frz (de_if (t_eq hr (DE.frz (d_ownIo (fun h => pe_own ((f__law_draw v).mono (by decide)) hr tk (by rfl) (u__law_draw v) (kp__law_draw v) h) (pv 0) (da_cons di_int da_nil))) (DI.pk di_int)) (DI.toE di_int) (x_add di_int (DE.pk (d_ownIo (fun h => pe_own ((f__law_draw v).mono (by decide)) hr tk (by rfl) (u__law_draw v) (kp__law_draw v) h) (pv 0) (da_cons di_int da_nil)))))) (da_cons di_int da_nil))))
    (dss_cons (ds_par (i := 3) (j := 4) (by rfl) S__law_right.nd (by rfl) (by rfl) (by decide) (by rfl) (by rfl) (d_make (fun h => pe_makeS (He.mkr_ok (v.c.fact 38 (f := .he (.mkr "Plan")))) ((f_Plan___init__ v).mono (by decide)) (hr.mono (by decide : 5 ≤ 10)) tk (by rfl) (u_Plan v) h) rfl (da_cons (di_var (pv 1)) da_nil)) (b_reprD hr (by rfl) (u_repr v) (db_one (dp_var (pv 1)))) (by rfl))
    (dss_cons (ds_for hp (by rfl) (dit_list (DE.frz (de_lst (da_cons (DE.frz (x_sub (DE.frz (d_ownIo (fun h => pe_own ((f__law_draw v).mono (by decide)) hr tk (by rfl) (u__law_draw v) (kp__law_draw v) h) (pv 0) (da_cons di_int da_nil))) (DI.pk di_int))) (da_cons (DE.frz (d_ownIo (fun h => pe_own ((f__law_great v).mono (by decide)) hr tk (by rfl) (u__law_great v) (kp__law_great v) h) (pv 0) (da_cons di_int da_nil))) (da_cons di_int da_nil)))))) (dg_name (pg_name S__law_right.nd (by rfl) (by first | exact Or.inl rfl | exact Or.inr rfl))) (tgt_name 2) (dss_one (ds_for hp (by rfl) (dit_tup (di_tup (da_cons di_int (da_cons (di_neg di_int) da_nil)))) (dg_name (pg_name S__law_right.nd (by rfl) (by first | exact Or.inl rfl | exact Or.inr rfl))) (tgt_name 5) (dss_one (ds_if (dt_not (dt_val (d_ownIo (fun h => pe_own ((f__law_cut_right v).mono (by decide)) hr tk (by rfl) (u__law_cut_right v) (kp__law_cut_right v) h) (pv 0) (da_cons (di_var (pv 3)) (da_cons (di_var (pv 1)) (da_cons (di_var (pv 2)) (da_cons (di_var (pv 5)) da_nil))))))) (dss_one (ds_ret (DI.toE di_bl))) dss_nil)))))
    (dss_one (ds_ret (x_eq hr (DE.frz (b_reprD hr (by rfl) (u_repr v) (db_one (dp_var (pv 1))))) (dp_var (pv 4))))))))))
def m__law_right : Fm := mir 6 1 g__law_right
theorem o__law_right (v : Ev K mg base) : DefOk (MM K) P w K mg base 11 "_law_right" "_law_right" (top 50) [] (He.ga K "_law_right") ["_law_pot_here"] m__law_right := by
  obtain ⟨fd, F⟩ := v.c.def_ 36 (d := d__law_right) rfl
  exact ⟨fd, F, funD_mir (M := MM K) F S__law_right (by decide) (fun cdv A outer s H E hr tk hp => b__law_right v cdv A outer s H E hr tk hp)⟩
theorem f__law_right (v : Ev K mg base) : TS.FnR P w K mg base (L2.CX P w) 11 (He.ga K "_law_right") (spD (MM K) m__law_right) := by
  obtain ⟨fd, F, O⟩ := o__law_right (P := P) (w := w) v
  exact fnR_raw (M := MM K) O (F.bindsN (ps := ["_law_pot_here"]) fun _ _ _ _ _ _ us hl => match us, hl with | [_], _ => rfl)
abbrev g__law_pot_1 : FS := (sAsg (fIfE (fTst (fBin gLt (vI 1) (frz (fCal gLen (aOne (vP 0)))))) (fCal gAbs (aOne (frz (fBin gIx (vI 0) (vP 1))))) (fBin gAdd (frz (fBin gMul (kD (.int 17)) (vP 1))) (kD (.int 5)))) (tName 2))
abbrev g__law_pot_2 : FS := (sRet (fLst (aCons (frz (fCal gMax (aCons (kD (.int 0)) (aCons (frz (fBin gSub (vI 2) (frz (fBin gPow (kD (.int 10)) (kD (.int 18)))))) aNil)))) (aCons (frz (fBin gMod (frz (fCal gInt (aOne (frz (fBin gAdd (frz (fBin gAdd (frz (fBin gMul (frz (fBin gMod (frz (fCal gInt (aOne (vP 2)))) (kD (.int 2147483587)))) (kD (.int 48271)))) (frz (fBin gMul (kD (.int 60013)) (vP 1))))) (kD (.int 321))))))) (kD (.int 2147483647)))) aNil))))
def g__law_pot : FS := (sSeq g__law_pot_1 g__law_pot_2)
theorem S__law_pot : FnScope ["_law_script", "_law_k", "_law_cell"] ["_law_script", "_law_k"] (defScope (top 32)) := ⟨rfl, rfl, rfl, by decide +kernel, rfl, by decide +kernel, by decide +kernel⟩
theorem kp__law_pot (v : Ev K mg base) : PySem.W.keepIn K (.ref (He.ga K "_law_pot")) = true := (v.c.def_ 37 (d := d__law_pot) rfl).elim fun _ F => F.kp
theorem b__law_pot (v : Ev K mg base) : BodyOk (MM K) P w K mg base 0 "_law_pot" (top 32) (He.ga K "_law_pot") ["_law_script", "_law_k", "_law_cell"] g__law_pot :=
  fun cdv A outer s H E hr tk hp => (dss_cons (ds_set (i := 2) S__law_pot.nd (by rfl) (by first | exact Or.inl rfl | exact Or.inr rfl) (de_if (t_lt (di_var (pv 1)) (DE.pk (b_len (by rfl) (u_len v) (db_one (dp_var (pv 0)))))) (b_abs (by rfl) (u_abs v) (db_one (DE.pk (x_ix hr (di_var (pv 0)) (dp_var (pv 1)))))) (x_add (DE.frz (x_mul di_int (dp_var (pv 1)))) (DI.pk di_int))))
    (dss_one (ds_ret (de_lst (da_cons (DE.frz (b_max (by rfl) (by rfl) (u_max v) (DA.b (da_cons di_int (da_cons (DE.frz (x_sub (di_var (pv 2)) (DE.pk (x_pow di_int (DI.pk di_int))))) da_nil))))) (da_cons (DE.frz (x_mod (DE.frz (b_int (by rfl) (u_int v) (db_one (DE.pk (x_add (DE.frz (x_add (DE.frz (x_mul (DE.frz (x_mod (DE.frz (b_int (by rfl) (u_int v) (db_one (dp_var (pv 2))))) (DI.pk di_int))) (DI.pk di_int))) (DE.pk (x_mul di_int (dp_var (pv 1)))))) (DI.pk di_int)))))) (DI.pk di_int))) da_nil))))))
def m__law_pot : Fm := mir 3 2 g__law_pot
theorem o__law_pot (v : Ev K mg base) : DefOk (MM K) P w K mg base 1 "_law_pot" "_law_pot" (top 32) [] (He.ga K "_law_pot") ["_law_script", "_law_k"] m__law_pot := by
  obtain ⟨fd, F⟩ := v.c.def_ 37 (d := d__law_pot) rfl
  exact ⟨fd, F, funD_mir (M := MM K) F S__law_pot (by decide) (fun cdv A outer s H E hr tk hp => b__law_pot v cdv A outer s H E hr tk hp)⟩
theorem f__law_pot (v : Ev K mg base) : TS.FnR P w K mg base (L2.CX P w) 1 (He.ga K "_law_pot") (spD (MM K) m__law_pot) := by
  obtain ⟨fd, F, O⟩ := o__law_pot (P := P) (w := w) v
  exact fnR_raw (M := MM K) O (F.bindsN (ps := ["_law_script", "_law_k"]) fun _ _ _ _ _ _ us hl => match us, hl with | [_, _], _ => rfl)
abbrev g_law_1 : FS := (sRet (fCal gAll (aOne (frz (fLc (stName 1) [1] (itRg1 (frz (fCal gMax (aCons (kD (.int 1)) (aCons (frz (fCal gMin (aCons (kD (.int 6)) (aCons (frz (fCal gLen (aOne (vP 0)))) aNil)))) aNil))))) tTrue (frz (fOwnT m__law_right (fOwn m__law_pot (aCons (vI 0) (aCons (vI 1) aNil))))))))))
def g_law : FS := g_law_1
theorem S_law : FnScope ["_law_script", "_law_k"] ["_law_script"] (defScope (top 51)) := ⟨rfl, rfl, rfl, by decide +kernel, rfl, by decide +kernel, by decide +kernel⟩
theorem b_law (v : Ev K mg base) : BodyOk (MM K) P w K mg base 11 "law" (top 51) (He.ga K "law") ["_law_script", "_law_k"] g_law :=
  fun cdv A outer s H E hr tk hp => (dss_one (ds_ret (b_all (by rfl) (by rfl) (u_all v) (db_one (DE.pk (de_lc (own := [("_law_k", 1)]) (by rfl) (by rfl) S_law.nd (dit_rg1 (by rfl) (u_range v) (DE.frz (b_max (by rfl) (by rfl) (u_max v) (DA.b (da_cons di_int (da_cons (DE.frz (b_min (by rfl) (by rfl) (u_min v) (DA.b (da_cons di_int (da_cons (DE.frz (b_len (by rfl) (u_len v) (db_one (dp_var (pv 0))))) da_nil))))) da_nil)))))) (blkOk_by (by kernel_rfl)) (st_name 1) (fun _ _ _ _ _ => pg_name S_law.nd (by rfl) (by first | exact Or.inl rfl | exact Or.inr rfl)) (fun _ _ _ _ _ => pts_no) (fun _ _ _ _ _ => (DE.frz (d_ownT (fun h => pe_own ((f__law_right v).mono (by decide)) hr TS.takes0 (by rfl) (u__law_right v) (kp__law_right v) h) (d_own (fun h => pe_own ((f__law_pot v).mono (by decide)) hr TS.takes0 (by rfl) (u__law_pot v) (kp__law_pot v) h) (da_cons (di_var (pv 0)) (da_cons (di_var (pv 1)) da_nil))))))))))))
def m_law : Fm := mir 2 1 g_law
theorem o_law (v : Ev K mg base) : DefOk (MM K) P w K mg base 12 "law" "law" (top 51) [] (He.ga K "law") ["_law_script"] m_law := by
  obtain ⟨fd, F⟩ := v.c.def_ 38 (d := d_law) rfl
  exact ⟨fd, F, funD_mir (M := MM K) F S_law (by decide) (fun cdv A outer s H E hr tk hp => b_law v cdv A outer s H E hr tk hp)⟩
end
end K32

namespace K32
open PySem L2 TS
noncomputable section
-- needs:
theorem is_int_int : is_int (.inl "int") = some true := by decide +kernel
theorem is_bool_int : is_bool (.inl "int") = some false := by decide +kernel
theorem is_lt_list : is_list_tuple (.inl "list") = some true := by decide +kernel
@[simp] theorem tag_int (i : Int) : tagD (.int i) = some (.inl "int") := rfl
@[simp] theorem tag_lst (xs : List D) : tagD (.lst xs) = some (.inl "list") := rfl
@[simp] theorem tag_obj (n : Nat) (xs : List D) : tagD (.obj n xs) = some (.inr n) := rfl
theorem is_integer_ok (i : Int) : m_is_integer none [.int i] = .ok (.imm (.bl true)) none := by
  simp [m_is_integer, mir, ini, ioS, ioN, outR, ioOut, g_is_integer, is_int_int, is_bool_int]
theorem require1_ok (i : Int) : m_require_integer_d1 none [.int i] = .ok (.imm .non) none := by
  have e : gNotN .non .non = some (.imm (.bl false)) := rfl
  simp [m_require_integer_d1, fmDfl, m_require_integer, mir, ini, ioS, ioN, outR, ioOut, g_require_integer, is_integer_ok, e]
theorem require2_ok {i j : Int} (h : j ≤ i) : m_require_integer none [.int i, .int j] = .ok (.imm .non) none := by
  have e : gNotN (.int j) .non = some (.imm (.bl true)) := rfl
  have h2 : ¬ i < j := by omega
  simp [m_require_integer, mir, ini, ioS, ioN, outR, ioOut, g_require_integer, is_integer_ok, e, h2]
end
end K32

namespace K32
open PySem L2 TS
noncomputable section
-- needs: ints
def nL (ns : List Nat) : List D := ns.map fun n : Nat => D.int (n : Int)
@[simp] theorem nL_len (ns : List Nat) : (nL ns).length = ns.length := by simp [nL]
end
end K32

namespace K32
open PySem L2 TS
noncomputable section
-- needs: lcm
end
end K32

namespace K32
open PySem L2 TS
noncomputable section
-- needs: ints
abbrev tg45 : TS.R → Sl → SR := tTup 2 (tsCons (tName 4) (tsCons (tName 5) tsNil))
abbrev ck1 : FS := g_checked_table_4B
theorem ck1_loop {a b c d g : Option TS.R} : ∀ (t : List Int) (i : Nat) (e f : Option TS.R), ∃ e' f', forL tg45 ck1 (enumD i (iL t)) [a, b, c, d, e, f, g] = .nx [a, b, c, d, e', f', g] := by
  intro t
  induction t with
  | nil => intro i e f; exact ⟨e, f, rfl⟩
  | cons x t ih =>
    intro i e f
    obtain ⟨e', f', h⟩ := ih (i + 1) (some (.imm (.int i))) (some (.imm (.int x)))
    refine ⟨e', f', ?_⟩
    rw [← h]
    simp [iL, enumD, forL, is_integer_ok]
abbrev ck2 : FS := g_checked_table_6B
@[simp] theorem toD_dK (ks : List Key) (ds : List D) : (OB.dK ks ds).toD = .dK ks ds := rfl
theorem look_none {ks : List Key} {ds : List D} {k : Key} (h : k ∉ ks) : lookD ks ds k = none := by
  induction ks generalizing ds with
  | nil => cases ds <;> rfl
  | cons a ks ih =>
    simp only [List.mem_cons, not_or] at h
    cases ds with
    | nil => rfl
    | cons d ds => simp only [lookD, if_neg (Ne.symm h.1)]; exact ih h.2
theorem ck2_turn {a c e f g : Option TS.R} {n : Int} (hn : 0 < n) {i : Nat} {x : Int} (hi : i < 3000) {ks : List Key} {ds : List D} (hk : (.inl (((i : Int) + x) % n) : Key) ∉ ks) (hl : ds.length < 3000) :
    ∃ g', ck2 [a, some (.imm (.int 1)), some (.imm (.int n)), some (.own (.dK ks ds)), some (.imm (.int i)), some (.imm (.int x)), g] = .nx [a, some (.imm (.int 1)), some (.imm (.int n)), some (.own (.dK (ks ++ [.inl (((i : Int) + x) % n)]) (ds ++ [.int i]))), some (.imm (.int i)), some (.imm (.int x)), g'] := by
  refine ⟨some (.imm (.int (((i : Int) + x) % n))), ?_⟩
  have m1 : gMul (.int 1) (.int (i : Int)) = some (.imm (.int (1 * (i : Int)))) := gMul_i (by decide) (by omega)
  have md : ∀ z : Int, gMod (.int z) (.int n) = some (.imm (.int (z % n))) := fun z => gMod_i hn
  have gi : gIn (.int (((i : Int) + x) % n)) (.dK ks ds) = some (.imm (.bl false)) := by
    simp [gIn, TS.keyOf, look_none hk]
  have st : setOB (.dK ks ds) (.int (((i : Int) + x) % n)) (.int (i : Int)) = some (.dK (ks ++ [.inl (((i : Int) + x) % n)]) (ds ++ [.int i])) := by
    have h1 : ds.length < 16777216 := by omega
    have h2 : (ks.any fun k' => decide (k' = (.inl (((i : Int) + x) % n) : Key))) = false := by
      rw [List.any_eq_false]
      intro k hkk
      have : k ≠ .inl (((i : Int) + x) % n) := fun z => hk (z ▸ hkk)
      simp [this]
    simp [setOB, TS.keyOf, h1, putD, h2]
  simp [m1, md, gi, st]
theorem ck2_loop {a : Option TS.R} {n : Int} (hn : 0 < n) : ∀ (t : List Int) (i : Nat) (ks : List Int) (ds : List D) (e f g : Option TS.R), i + t.length ≤ 2520 → ds.length = i → (ks ++ rems n i t).Nodup →
    ∃ o' e' f' g', forL tg45 ck2 (enumD i (iL t)) [a, some (.imm (.int 1)), some (.imm (.int n)), some (.own (.dK (ks.map .inl) ds)), e, f, g] = .nx [a, some (.imm (.int 1)), some (.imm (.int n)), some (.own o'), e', f', g'] := by
  intro t
  induction t with
  | nil => intro i ks ds e f g _ _ _; exact ⟨_, e, f, g, rfl⟩
  | cons x t ih =>
    intro i ks ds e f g hl hd hnd
    have hk : (.inl (((i : Int) + x) % n) : Key) ∉ ks.map Sum.inl := by
      intro z
      obtain ⟨y, hy, ez⟩ := List.mem_map.mp z
      cases ez
      have := (List.nodup_append.mp hnd).2.2 _ hy (((i : Int) + x) % n) (by simp [rems])
      exact this rfl
    simp only [List.length_cons] at hl
    obtain ⟨g', e1⟩ := ck2_turn (a := a) (c := none) (e := none) (f := none) (g := g) hn (i := i) (x := x) (by omega) (ds := ds) hk (by omega)
    have hnd' : ((ks ++ [((i : Int) + x) % n]) ++ rems n (i + 1) t).Nodup := by
      rw [List.append_assoc]; exact hnd
    obtain ⟨o', e', f', g2, h⟩ := ih (i + 1) (ks ++ [((i : Int) + x) % n]) (ds ++ [.int i]) (some (.imm (.int i))) (some (.imm (.int x))) g' (by omega) (by simp; omega) hnd'
    refine ⟨o', e', f', g2, ?_⟩
    rw [← h]
    simp only [iL, List.map_cons, enumD, forL, ap_tTup, List.length_cons, List.length_nil, if_true, ap_tsCons, ap_tNameI, SR.bind_nx, ap_tsNil, List.set_cons_succ, List.set_cons_zero, List.map_append, List.map_nil]
    have es : ck2 [a, some (.imm (.int 1)), some (.imm (.int n)), some (.own (.dK (ks.map .inl) ds)), some (.imm (.int i)), some (.imm (.int x)), g] = _ := e1
    simp only [es]
theorem checked_ok {t : List Int} (h : Good t) : m_checked_table none [.lst (iL t), .int 1] = .ok (.own (.l (iL t))) none := by
  obtain ⟨e1, f1, q1⟩ := ck1_loop (a := some (.imm (.lst (iL t)))) (b := some (.imm (.int 1))) (c := some (.imm (.int t.length))) (d := none) (g := none) t 0 none none
  obtain ⟨o', e2, f2, g2, q2⟩ := ck2_loop (a := some (.imm (.lst (iL t)))) (n := t.length) (by have := h.pos; omega) t 0 [] [] e1 f1 none (by have := h.len; omega) rfl (by simpa using h.rems)
  have h0 := h.pos
  have h1 := h.len
  have n0 : ¬ ((t.length : Int) = 0) := by omega
  have n1 : ¬ ((2520 : Int) < t.length) := by omega
  have gl : gList [.lst (iL t)] = some (.own (.l (iL t))) := rfl
  have hl : ((iL t).length : Int) = t.length := by simp [iL]
  have n2 : t ≠ [] := by intro z; subst z; simp at h0
  have q2' := q2
  simp only [List.map_nil] at q2'
  simp [m_checked_table, mir, ini, ioS, ioN, outR, ioOut, g_checked_table, is_lt_list, n0, n1, n2, gl, q1, q2', itEnumLT]
end
end K32

namespace K32
open PySem L2 TS
noncomputable section
-- needs:
abbrev ltB : FS := sIf (fAnd (fTst (fBin gEq (frz (fBin gMod (vI 1) (vP 2))) (kD (.int 0)))) (fTst (fBin gEq (frz (fBin gMul (frz (fSl (vI 0) oNone (oSome (vI 2)))) (frz (fBin gFdiv (vI 1) (vP 2))))) (vP 0)))) (sRet (fSl (vI 0) oNone (oSome (vI 2)))) sNil
theorem gSl_to (t : List Int) (p : Nat) : gSl (.lst (iL t)) none (some (p : Int)) = some (.own (.l (iL (t.take p)))) := by
  have e := cut_to t p
  simp only [gSl]
  rw [e]
theorem lt_rep {t : List Int} (ht : t.length ≤ 2520) {p : Nat} (hp : 0 < p) (hl : p ≤ 2520) : gMul (.lst (iL (t.take p))) (.int ((t.length : Int) / p)) = some (.own (.l (iL (repOf p t)))) := by
  have hle : t.length / p ≤ t.length := Nat.div_le_self _ _
  have hc : ((t.length : Int) / p) = ((t.length / p : Nat) : Int) := (Int.natCast_ediv _ _).symm
  have hm : (t.take p).length * (t.length / p) ≤ 16777216 := by
    rw [List.length_take]
    have : min p t.length * (t.length / p) ≤ 2520 * 2520 := Nat.mul_le_mul (by omega) (by omega)
    omega
  rw [hc]
  exact gRep_nat (by omega) hm
abbrev ltd (t : List Int) (p : Nat) : Sl := [some (.imm (.lst (iL t))), some (.imm (.int t.length)), some (.imm (.int p))]
theorem lt_t1 {t : List Int} {p : Nat} (hp : 0 < p) : fTst (fBin gEq (frz (fBin gMod (vI 1) (vP 2))) (kD (.int 0))) (ltd t p) = .ok (decide (t.length % p = 0)) (ltd t p) := by
  have e1 : gMod (.int (t.length : Int)) (.int (p : Int)) = some (.imm (.int ((t.length : Int) % p))) := gMod_i (by omega)
  have hm : decide ((t.length : Int) % p = 0) = decide (t.length % p = 0) := decide_eq_decide.mpr (by omega)
  rw [← hm]
  simp [e1]
theorem lt_t2 {t : List Int} {p : Nat} {gM gF : D → D → Option TS.R} (e2 : gF (.int (t.length : Int)) (.int (p : Int)) = some (.imm (.int ((t.length : Int) / p)))) (e3 : gM (.lst (iL (t.take p))) (.int ((t.length : Int) / p)) = some (.own (.l (iL (repOf p t))))) : fTst (fBin gEq (frz (fBin gM (frz (fSl (vI 0) oNone (oSome (vI 2)))) (frz (fBin gF (vI 1) (vP 2))))) (vP 0)) (ltd t p) = .ok (decide (repOf p t = t)) (ltd t p) := by
  have e4 := gSl_to t p
  simp [e2, e3, e4]
theorem lt_t3 {t : List Int} {p : Nat} : fSl (vI 0) oNone (oSome (vI 2)) (ltd t p) = .ok (.own (.l (iL (t.take p)))) (ltd t p) := by
  have e4 := gSl_to t p
  simp [e4]
theorem lt_turn {t : List Int} (ht : t.length ≤ 2520) {p : Nat} (hp : 0 < p) (hl : p ≤ 2520) :
    ltB (ltd t p) = if isPer t p then .rt (.own (.l (iL (t.take p)))) (ltd t p) else .nx (ltd t p) := by
  have e2 : gFdiv (.int (t.length : Int)) (.int (p : Int)) = some (.imm (.int ((t.length : Int) / p))) := gFdiv_i (by omega) (by omega)
  have q1 := lt_t1 (t := t) hp
  have q2 := lt_t2 e2 (lt_rep ht hp hl)
  have q3 := lt_t3 (t := t) (p := p)
  unfold ltB isPer
  rw [ap_sIf, ap_fAnd, q1, Res.bind_ok]
  cases decide (t.length % p = 0) with
  | false => rfl
  | true =>
    simp only [if_true, Bool.true_and]
    rw [q2, Res.bindS_ok]
    cases decide (repOf p t = t) with
    | false => rfl
    | true => simp only [if_true]; rw [ap_sRet, q3, Res.bindS_ok]
theorem lt_loop {t : List Int} (ht : t.length ≤ 2520) : ∀ (k i : Nat) (s : Option TS.R), 0 < i → i + k ≤ 2520 →
    (∃ s', forL (tName 2) ltB (iL (nats i k)) [some (.imm (.lst (iL t))), some (.imm (.int t.length)), s] = (match (List.range' i k).find? (isPer t) with
      | some p => .rt (.own (.l (iL (t.take p)))) [some (.imm (.lst (iL t))), some (.imm (.int t.length)), s']
      | none => .nx [some (.imm (.lst (iL t))), some (.imm (.int t.length)), s'])) := by
  intro k
  induction k with
  | zero => intro i s _ _; exact ⟨s, by simp [nats, forL, iL]⟩
  | succ k ih =>
    intro i s hi hk
    have e := lt_turn ht hi (by omega)
    rw [nats_succ]
    simp only [forL, ap_tNameI, SR.bind_nx, List.set_cons_succ, List.set_cons_zero, e, List.range'_succ, List.find?_cons]
    cases hp : isPer t i with
    | true => exact ⟨_, rfl⟩
    | false =>
      obtain ⟨s', e2⟩ := ih (i + 1) (some (.imm (.int i))) (by omega) (by omega)
      exact ⟨s', by simp only [Bool.false_eq_true, if_false]; exact e2⟩
theorem least_table_any {t : List Int} (h0 : 0 < t.length) (h1 : t.length ≤ 2520) : ∃ r, (r = .own (.l (iL (least t))) ∨ r = .imm (.lst (iL (least t)))) ∧ m_least_table none [.lst (iL t)] = .ok r none := by
  have f1 : itRg2 (kD (.int 1)) (vI 1) [some (.imm (.lst (iL t))), some (.imm (.int t.length)), none] = .ok (iL (nats 1 (t.length - 1))) [some (.imm (.lst (iL t))), some (.imm (.int t.length)), none] :=
    itRg2_ok (i := 1) (k := t.length) (by omega) (by omega) rfl (by simp)
  obtain ⟨s', e⟩ := lt_loop h1 (t.length - 1) 1 none (by omega) (by omega)
  have hl : ((iL t).length : Int) = t.length := by simp [iL]
  have s4 : ∀ G : FS, mir 3 1 G none [.lst (iL t)] = outR none (G [some (.imm (.lst (iL t))), none, none]) := fun G => by simp [mir, ini, ioS, ioN]
  have s2 : g_least_table_1 [some (.imm (.lst (iL t))), none, none] = .nx [some (.imm (.lst (iL t))), some (.imm (.int t.length)), none] := by simp
  have s3 : g_least_table [some (.imm (.lst (iL t))), none, none] = ((forL (tName 2) ltB (iL (nats 1 (t.length - 1))) [some (.imm (.lst (iL t))), some (.imm (.int t.length)), none])).bind (sRet (vR 0)) := by
    unfold g_least_table
    rw [ap_sSeq, s2, SR.bind_nx, ap_sSeq]
    show (sFor (itRg2 (kD (.int 1)) (vI 1)) (tName 2) ltB _).bind _ = _
    rw [ap_sFor, f1, Res.bindS_ok]
  unfold m_least_table
  rw [s4, s3, e]
  unfold least leastP
  cases q : (List.range' 1 (t.length - 1)).find? (isPer t) with
  | some p => exact ⟨_, .inl rfl, rfl⟩
  | none => exact ⟨_, .inr (by simp), rfl⟩
theorem least_table_ok {t : List Int} (h : Good t) : ∃ r, (r = .own (.l (iL (least t))) ∨ r = .imm (.lst (iL (least t)))) ∧ m_least_table none [.lst (iL t)] = .ok r none := least_table_any h.pos h.len
end
end K32

namespace K32
open PySem L2 TS
noncomputable section
-- needs:
abbrev srB : FS := sAsg (toE (vI 2)) (tSub 1 (frz (fBin gMod (frz (fBin gAdd (vI 2) (vP 3))) (frz (fCal gLen (aOne (vP 0)))))))
abbrev tg23 : TS.R → Sl → SR := tTup 2 (tsCons (tName 2) (tsCons (tName 3) tsNil))
theorem src_loop {T : List Int} (h0 : 0 < T.length) : ∀ (t : List Int) (i : Nat) (acc : List Int) (s2 s3 : Option TS.R), acc.length = T.length →
    ∃ s2' s3', forL tg23 srB (enumD i (iL t)) [some (.imm (.lst (iL T))), some (.own (.l (iL acc))), s2, s3] = .nx [some (.imm (.lst (iL T))), some (.own (.l (iL (srcL T.length i t acc)))), s2', s3'] := by
  intro t
  induction t with
  | nil => intro i acc s2 s3 _; exact ⟨s2, s3, rfl⟩
  | cons x t ih =>
    intro i acc s2 s3 hl
    obtain ⟨a, b, e⟩ := ih (i + 1) (acc.set (((i : Int) + x) % T.length).toNat i) (some (.imm (.int i))) (some (.imm (.int x))) (by simp [hl])
    refine ⟨a, b, ?_⟩
    rw [srcL, ← e]
    have b1 := Int.emod_nonneg ((i : Int) + x) (show (T.length : Int) ≠ 0 by omega)
    have b2 := Int.emod_lt_of_pos ((i : Int) + x) (show 0 < (T.length : Int) by omega)
    have md : gMod (.int ((i : Int) + x)) (.int (T.length : Int)) = some (.imm (.int (((i : Int) + x) % T.length))) := gMod_i (by omega)
    have st := setOB_int (acc := acc) b1 (by rw [hl]; exact b2) (i : Int)
    have hL : ((iL T).length : Int) = T.length := by simp [iL]
    simp [iL_cons, enumD, forL, md, st]
theorem sources_ok {t : List Int} (h : Good t) : m_sources_of none [.lst (iL t)] = .ok (.own (.l (iL (srcs t)))) none := by
  have h0 := h.pos
  have h1 := h.len
  have c1 : fLc (stName 3) [3] (itSeq (vI 0)) tTrue (kD (.int 0)) [some (.imm (.lst (iL t))), none, none, none] = .ok (.own (.l (iL (List.replicate t.length 0)))) [some (.imm (.lst (iL t))), none, none, none] := by
    have q := lc_ints (xs := t) (fun _ => 0) (i := 3) (fi := itSeq (vI 0)) (fe := kD (.int 0)) (δ := [some (.imm (.lst (iL t))), none, none, none]) (δ1 := [some (.imm (.lst (iL t))), none, none, none]) (by simp) rfl (by omega) (fun x _ => by simp)
    rw [q, List.map_const']
  obtain ⟨a, b, e⟩ := src_loop h0 t 0 (List.replicate t.length 0) none none (by simp)
  simp [m_sources_of, mir, ini, ioS, ioN, outR, ioOut, g_sources_of, c1, e]
  rfl
end
end K32

namespace K32
open PySem L2 TS
noncomputable section
-- needs: join checked least srcs
def planD (s : List Int) : List D := [.lst (iL s), .lst (iL (srcs s))]
abbrev pl (t : List Int) : D := .obj 0 (planD (least t))
abbrev plO (t : List Int) : OB := .o 0 (planD (least t))
theorem init_ok {t : List Int} (h : Good t) : m_Plan___init__ (some (.o 0 [])) [.lst (iL t)] = .ok (.imm .non) (some (plO t)) := by
  obtain ⟨r, hr, e⟩ := least_table_ok h
  have c := checked_ok h
  have sr := sources_ok h.least
  rcases hr with rfl | rfl <;>
  simp [m_Plan___init__, mir, ini, ioS, ioN, outR, ioOut, g_Plan___init__, c, e, sr, ix_own_offsets, ix_own_sources, setF, plO, planD]
theorem offsets_ok (t : List Int) : m_Plan_offsets none [pl t] = .ok (.own (.l (iL (least t)))) none := by
  have gl : gList [.lst (iL (least t))] = some (.own (.l (iL (least t)))) := rfl
  simp [m_Plan_offsets, mir, ini, ioS, ioN, outR, ioOut, g_Plan_offsets, pl, planD, ix_own_offsets, gl]
end
end K32

namespace K32
open PySem L2 TS
noncomputable section
-- needs: plan
end
end K32

namespace K32
open PySem L2 TS
noncomputable section
-- needs: shift
theorem act_mem {t : List Int} (h : 0 < t.length) (z : Int) : act t z ∈ t := by
  have b1 := Int.emod_nonneg z (show (t.length : Int) ≠ 0 by omega)
  have b2 := Int.emod_lt_of_pos z (show 0 < (t.length : Int) by omega)
  obtain ⟨i, ei⟩ := Int.eq_ofNat_of_zero_le b1
  rw [← act_mod, ei]
  exact List.mem_of_getElem? (act_get' (by omega))
theorem mem_act {t : List Int} {x : Int} (h : x ∈ t) : ∃ z, act t z = x := by
  obtain ⟨i, hi, e⟩ := List.getElem_of_mem h
  exact ⟨i, act_get (by rw [List.getElem?_eq_getElem hi, e])⟩
end
end K32

namespace K32
open PySem L2 TS
noncomputable section
-- needs: plan
theorem period_prop (t : List Int) : m_Plan_period none [pl t] = .ok (.imm (.int ((least t).length : Int))) none := by
  simp [m_Plan_period, mir, ini, ioS, ioN, outR, ioOut, g_Plan_period, planD, ix_own_offsets]
end
end K32

namespace K32
open PySem L2 TS
noncomputable section
-- needs: plan
end
end K32

namespace K32
open PySem L2 TS
noncomputable section
-- needs: plan delay pprop flowp
def rowOf (c : Int) (p : Nat × Int) : D := .tup [.int (p.1 : Int), .int (if c - p.2 < c then c - p.2 else c), .int (if c < c - p.2 then c - p.2 else c)]
def rowsL (s : Int) (u : List Int) : List (Nat × Int) := (enumL 0 u).filter fun p => decide (0 < p.2 * s)
def BdT (t : List Int) : Prop := ∀ x ∈ t, x.natAbs < 2 ^ 255
theorem BdT.least {t : List Int} (h : Good t) (hb : BdT t) : BdT (least t) := fun x hx => by
  obtain ⟨z, rfl⟩ := mem_act hx
  rw [least_act h.pos]
  exact hb _ (act_mem h.pos z)
theorem enumL_mem {t : List Int} {p : Nat × Int} (h : p ∈ enumL 0 t) : p.1 < t.length ∧ p.2 = act t p.1 ∧ p.2 ∈ t := by
  obtain ⟨j, hj, e⟩ := List.getElem_of_mem h
  have q := enumL_get t 0 j
  rw [List.getElem?_eq_getElem hj, e] at q
  rw [enumL_len] at hj
  rw [act_get' hj] at q
  have q := Option.some.inj q
  subst q
  exact ⟨by simpa using hj, by simp, act_mem (by omega) _⟩
theorem ranges_ok {t : List Int} (h : Good t) (hb : BdT t) (c : Int) {s : Int} (hs : s.natAbs < 2 ^ 255) : m_crossing_ranges none [pl t, .int c, .int s] = .ok (.own (.l ((rowsL s (least t)).map (rowOf c)))) none := by
  have hl := h.least
  have hbl := BdT.least h hb
  have e0 : ∀ a b d e : Option TS.R, fMeth tab_offsets (vI 0) aNil [some (.imm (pl t)), a, b, d, e, none] = .ok (.own (.l (iL (least t)))) [some (.imm (pl t)), a, b, d, e, none] := fun a b d e => by
    have e := offsets_ok t
    simp [tab_offsets, e]
  have hlen := hl.len
  have key := for_inv (xs := enumL 0 (least t)) (inj := fun p => .tup [.int (p.1 : Int), .int p.2]) (tg := tTup 2 (tsCons (tName 4) (tsCons (tName 5) tsNil))) (body := g_crossing_ranges_2B)
    (δ := [some (.imm (pl t)), some (.imm (.int c)), some (.imm (.int s)), some (.own (.l [])), none, none])
    (fun pre δ => ∃ a b, δ = [some (.imm (pl t)), some (.imm (.int c)), some (.imm (.int s)), some (.own (.l ((pre.filter fun p => decide (0 < p.2 * s)).map (rowOf c)))), a, b]) ⟨none, none, rfl⟩
    (fun pre p post δ hx hI => by
      obtain ⟨a, b, rfl⟩ := hI
      have hm : p ∈ enumL 0 (least t) := by rw [hx]; simp
      obtain ⟨m1, m2, m3⟩ := enumL_mem hm
      have g := gMul_i (hbl _ m3) hs
      have hpl : pre.length < (least t).length := by
        have : (enumL 0 (least t)).length = pre.length + (post.length + 1) := by rw [hx]; simp
        rw [enumL_len] at this; omega
      have hfl : ((pre.filter fun p => decide (0 < p.2 * s)).map (rowOf c)).length < 16777216 := by
        have := List.length_filter_le (fun p : Nat × Int => decide (0 < p.2 * s)) pre
        simp only [List.length_map]; omega
      generalize hL : (pre.filter fun p => decide (0 < p.2 * s)).map (rowOf c) = L at *
      have ap : ∀ d : D, mAppend L [d] = some (.non, L ++ [d]) := fun d => by simp [mAppend, hfl]
      by_cases hp : 0 < p.2 * s
      · refine ⟨[some (.imm (pl t)), some (.imm (.int c)), some (.imm (.int s)), some (.own (.l (L ++ [rowOf c p]))), some (.imm (.int (p.1 : Int))), some (.imm (.int p.2))], .inl ?_, some (.imm (.int (p.1 : Int))), some (.imm (.int p.2)), by simp [List.filter_append, hp, hL]⟩
        simp [g, hp, ap, rowOf]
      · refine ⟨[some (.imm (pl t)), some (.imm (.int c)), some (.imm (.int s)), some (.own (.l L)), some (.imm (.int (p.1 : Int))), some (.imm (.int p.2))], .inl ?_, some (.imm (.int (p.1 : Int))), some (.imm (.int p.2)), by simp [List.filter_append, hp, hL]⟩
        simp [g, hp])
  obtain ⟨δ', ⟨a, b, rfl⟩, e⟩ := key
  have S2 : g_crossing_ranges_2 [some (.imm (pl t)), some (.imm (.int c)), some (.imm (.int s)), some (.own (.l [])), none, none] = .nx [some (.imm (pl t)), some (.imm (.int c)), some (.imm (.int s)), some (.own (.l ((rowsL s (least t)).map (rowOf c)))), a, b] := by
    show sFor (itEnum (frz (fMeth tab_offsets (vI 0) aNil))) _ _ _ = _
    have : itEnum (frz (fMeth tab_offsets (vI 0) aNil)) [some (.imm (pl t)), some (.imm (.int c)), some (.imm (.int s)), some (.own (.l [])), none, none] = .ok ((enumL 0 (least t)).map fun p => .tup [.int (p.1 : Int), .int p.2]) [some (.imm (pl t)), some (.imm (.int c)), some (.imm (.int s)), some (.own (.l [])), none, none] := by
      rw [ap_itEnum, ap_frz, e0]
      simp [enumD_map]
    rw [ap_sFor, this, Res.bindS_ok]
    exact e
  have s4 : ∀ G : FS, mir 6 3 G none [pl t, .int c, .int s] = outR none (G [some (.imm (pl t)), some (.imm (.int c)), some (.imm (.int s)), none, none, none]) := fun G => by simp [mir, ini, ioS, ioN]
  unfold m_crossing_ranges g_crossing_ranges
  have S1 : g_crossing_ranges_1 [some (.imm (pl t)), some (.imm (.int c)), some (.imm (.int s)), none, none, none] = .nx [some (.imm (pl t)), some (.imm (.int c)), some (.imm (.int s)), some (.own (.l [])), none, none] := by simp
  rw [s4, ap_sSeq, S1, SR.bind_nx, ap_sSeq, S2, SR.bind_nx]
  simp [outR, ioOut]
theorem count_with_ok (r : Int) {n : Nat} (h0 : 0 < n) (h1 : n ≤ 2520) (a b : Int) : m_count_with none [.int r, .int (n : Int), .int a, .int b] = .ok (.imm (.int ((r - a) / n - (r - b) / n))) none := by
  have g1 : ∀ i : Int, gFdiv (.int i) (.int (n : Int)) = some (.imm (.int (i / n))) := fun i => gFdiv_i (by omega) (by omega)
  simp [m_count_with, mir, ini, ioS, ioN, outR, ioOut, g_count_with, g1]
def rowN (n : Nat) (c : Int) (p : Nat × Int) : Int := ((p.1 : Int) - (if c - p.2 < c then c - p.2 else c)) / n - ((p.1 : Int) - (if c < c - p.2 then c - p.2 else c)) / n
theorem ccount_ok {t : List Int} (h : Good t) (hb : BdT t) (c : Int) {s : Int} (hs : s.natAbs < 2 ^ 255) : m_crossing_count none [pl t, .int c, .int s] = .ok (.imm (.int ((rowsL s (least t)).map (rowN (least t).length c)).sum)) none := by
  have hl := h.least
  have e1 := ranges_ok h hb c hs
  have e2 := period_prop t
  have hlen : (rowsL s (least t)).length ≤ 2520 := by
    have := List.length_filter_le (fun p : Nat × Int => decide (0 < p.2 * s)) (enumL 0 (least t))
    rw [enumL_len] at this
    have := hl.len
    unfold rowsL; omega
  have q := lc_all (xs := rowsL s (least t)) (inj := rowOf c) (setT := stTrip 4 5 6) (vs := [4, 5, 6]) (fi := itSeq (vI 3)) (fe := frz (fOwn m_count_with (aCons (vI 4) (aCons (fProp ptab_period (vI 0)) (aCons (vI 5) (aCons (vI 6) aNil))))))
    (δ := [some (.imm (pl t)), some (.imm (.int c)), some (.imm (.int s)), some (.imm (.lst ((rowsL s (least t)).map (rowOf c)))), none, none, none]) (δ1 := [some (.imm (pl t)), some (.imm (.int c)), some (.imm (.int s)), some (.imm (.lst ((rowsL s (least t)).map (rowOf c)))), none, none, none])
    (fun p => .int (((p.1 : Int) - (if c - p.2 < c then c - p.2 else c)) / (least t).length - ((p.1 : Int) - (if c < c - p.2 then c - p.2 else c)) / (least t).length)) [some (.imm (pl t)), some (.imm (.int c)), some (.imm (.int s)), some (.imm (.lst ((rowsL s (least t)).map (rowOf c)))), none, none, none] (by simp) rfl rfl rfl (by omega) (fun p hp => by
      refine ⟨[some (.imm (pl t)), some (.imm (.int c)), some (.imm (.int s)), some (.imm (.lst ((rowsL s (least t)).map (rowOf c)))), some (.imm (.int (p.1 : Int))), some (.imm (.int (if c - p.2 < c then c - p.2 else c))), some (.imm (.int (if c < c - p.2 then c - p.2 else c)))], rfl, ?_, rfl⟩
      have e3 := count_with_ok (p.1 : Int) hl.pos hl.len (if c - p.2 < c then c - p.2 else c) (if c < c - p.2 then c - p.2 else c)
      generalize (if c - p.2 < c then c - p.2 else c) = A at *
      generalize (if c < c - p.2 then c - p.2 else c) = B at *
      simp [e2, e3, ptab_period])
  have q' : ∀ r3 : TS.R, (r3 = .own (.l ((rowsL s (least t)).map (rowOf c)))) → fLc (stTrip 4 5 6) [4, 5, 6] (itSeq (vI 3)) tTrue (frz (fOwn m_count_with (aCons (vI 4) (aCons (fProp ptab_period (vI 0)) (aCons (vI 5) (aCons (vI 6) aNil)))))) [some (.imm (pl t)), some (.imm (.int c)), some (.imm (.int s)), some r3, none, none, none] = .ok (.own (.l (iL ((rowsL s (least t)).map (rowN (least t).length c))))) [some (.imm (pl t)), some (.imm (.int c)), some (.imm (.int s)), some (.imm (.lst ((rowsL s (least t)).map (rowOf c)))), none, none, none] := fun r3 hr => by
    subst hr
    have z : iL ((rowsL s (least t)).map (rowN (least t).length c)) = (rowsL s (least t)).map (fun p => .int (((p.1 : Int) - (if c - p.2 < c then c - p.2 else c)) / (least t).length - ((p.1 : Int) - (if c < c - p.2 then c - p.2 else c)) / (least t).length)) := by simp [iL, rowN, Function.comp_def]
    rw [z, ← q]
    unfold fLc
    simp
  have q2 := q' _ rfl
  have g := gSum_l ((rowsL s (least t)).map (rowN (least t).length c))
  generalize (rowsL s (least t)).map (rowN (least t).length c) = N at *
  generalize (rowsL s (least t)).map (rowOf c) = R at *
  simp [m_crossing_count, mir, ini, ioS, ioN, outR, ioOut, g_crossing_count, e1, q2, g]
theorem sum_filter {α : Type} (p : α → Bool) (f : α → Int) : ∀ l : List α, ((l.filter p).map f).sum = (l.map fun x => if p x then f x else 0).sum
  | [] => rfl
  | x :: l => by
    cases h : p x <;> simp [h, sum_filter p f l]
theorem enumL_tab (u : List Int) : enumL 0 u = (List.range u.length).map fun i : Nat => (i, act u i) := by
  apply List.ext_getElem?
  intro j
  rw [enumL_get, List.getElem?_map]
  by_cases hj : j < u.length
  · rw [act_get' hj, List.getElem?_range hj]; simp
  · rw [List.getElem?_eq_none (by omega), List.getElem?_eq_none (by simpa using hj)]; rfl
theorem rows_sum (s : Int) (u : List Int) (f : Nat × Int → Int) : ((rowsL s u).map f).sum = sm (fun i => if 0 < act u i * s then f (i.toNat, act u i) else 0) u.length := by
  unfold rowsL
  rw [sum_filter, enumL_tab, List.map_map, ← tabOf_sum]
  unfold tabOf
  congr 1
  apply List.map_congr_left
  intro i _
  simp
def upN (t : List Int) (c : Int) : Int := ((rowsL 1 (least t)).map (rowN (least t).length c)).sum
def dnN (t : List Int) (c : Int) : Int := ((rowsL (-1) (least t)).map (rowN (least t).length c)).sum
theorem up_dn {t : List Int} (h : Good t) (c : Int) : upN t c - dnN t c = flw t := by
  rw [← flw_least h, ← cnt_flw h.least c]
  unfold upN dnN cnt
  rw [rows_sum, rows_sum, ← sm_minus]
  refine sm_congr fun i hi => ?_
  generalize act (least t) (i : Int) = x
  simp only [rowN, Int.toNat_natCast, Int.mul_one, Int.mul_neg]
  rcases Int.lt_trichotomy x 0 with hx | hx | hx
  · rw [if_neg (by omega), if_pos (by omega), if_neg (by omega), if_pos (by omega), show (i : Int) - (c - x) = i + x - c by omega]; omega
  · subst hx; simp
  · rw [if_pos (by omega), if_pos (by omega), if_neg (by omega), if_neg (by omega), show (i : Int) - (c - x) = i + x - c by omega]; omega
theorem row_nn (n : Nat) (h0 : 0 < n) (c : Int) (p : Nat × Int) : 0 ≤ rowN n c p := by
  unfold rowN
  have : ((p.1 : Int) - (if c < c - p.2 then c - p.2 else c)) / n ≤ ((p.1 : Int) - (if c - p.2 < c then c - p.2 else c)) / n := by
    apply Int.ediv_le_ediv (by omega)
    split <;> split <;> omega
  omega
def psR (n : Nat) (c : Int) (p : Nat × Int) : List Int := (List.range (rowN n c p).toNat).map fun k : Nat => (if c - p.2 < c then c - p.2 else c) + ((p.1 : Int) - (if c - p.2 < c then c - p.2 else c)) % n + n * (k : Int)
theorem psR_len (n : Nat) (c : Int) (p : Nat × Int) : (psR n c p).length = (rowN n c p).toNat := by simp [psR]
theorem psR_mem {n : Nat} (h0 : 0 < n) (c : Int) (p : Nat × Int) (x : Int) : x ∈ psR n c p ↔ (x % n = p.1 % n ∧ (if c - p.2 < c then c - p.2 else c) ≤ x ∧ x < (if c < c - p.2 then c - p.2 else c)) := by
  unfold psR rowN
  generalize (if c - p.2 < c then c - p.2 else c) = a
  generalize (if c < c - p.2 then c - p.2 else c) = b
  generalize (p.1 : Int) = r
  have hn : (0 : Int) < n := by omega
  have a1 := Int.mul_ediv_add_emod (r - a) n
  have a2 := Int.mul_ediv_add_emod (r - b) n
  have a3 := Int.emod_lt_of_pos (r - b) hn
  have a4 := Int.emod_nonneg (r - b) (show (n : Int) ≠ 0 by omega)
  have a5 := Int.emod_lt_of_pos (r - a) hn
  have a6 := Int.emod_nonneg (r - a) (show (n : Int) ≠ 0 by omega)
  generalize (r - a) / n = q at *
  generalize (r - b) / n = Q at *
  generalize (r - a) % n = m at *
  generalize (r - b) % n = m' at *
  constructor
  · intro hx
    obtain ⟨k, hk, rfl⟩ := List.mem_map.mp hx
    rw [List.mem_range] at hk
    have hk : (k : Int) < q - Q := by omega
    have e : a + m + n * k = r + n * (k - q) := by rw [Int.mul_sub]; omega
    refine ⟨by rw [e, Int.add_mul_emod_self_left], ?_, ?_⟩
    · have : 0 ≤ (n : Int) * k := Int.mul_nonneg (by omega) (by omega)
      omega
    · have : (n : Int) * (k - q) ≤ n * (-Q - 1) := Int.mul_le_mul_of_nonneg_left (by omega) (by omega)
      rw [Int.mul_sub, Int.mul_sub, Int.mul_neg] at this
      rw [e]; omega
  · rintro ⟨h1, h2, h3⟩
    obtain ⟨j, hj⟩ : (n : Int) ∣ r - x := Int.dvd_of_emod_eq_zero (Int.emod_eq_emod_iff_emod_sub_eq_zero.mp h1.symm)
    have j1 : j ≤ q := by
      by_cases hq : j ≤ q
      · exact hq
      · have : (n : Int) * (q + 1) ≤ n * j := Int.mul_le_mul_of_nonneg_left (by omega) (by omega)
        rw [Int.mul_add] at this; omega
    have j2 : Q < j := by
      by_cases hq : Q < j
      · exact hq
      · have : (n : Int) * j ≤ n * Q := Int.mul_le_mul_of_nonneg_left (by omega) (by omega)
        omega
    refine List.mem_map.mpr ⟨(q - j).toNat, by rw [List.mem_range]; omega, ?_⟩
    rw [Int.toNat_of_nonneg (by omega), Int.mul_sub]
    omega
theorem psR_nodup {n : Nat} (h0 : 0 < n) (c : Int) (p : Nat × Int) : (psR n c p).Nodup := by
  unfold psR
  rw [nodup_iff]
  intro i j hij hj e
  rw [List.length_map, List.length_range] at hj
  simp only [List.getElem?_map, List.getElem?_range hj, List.getElem?_range (show i < (rowN n c p).toNat by omega), Option.map_some] at e
  have e := Option.some.inj e
  have : (n : Int) * i = n * j := by omega
  have := Int.eq_of_mul_eq_mul_left (by omega) this
  omega
theorem places_with_ok {n : Nat} (h0 : 0 < n) (h1 : n ≤ 2520) (c : Int) (p : Nat × Int) (hN : (rowN n c p).toNat ≤ 1000000) : m_places_with none [.int (p.1 : Int), .int (n : Int), .int (if c - p.2 < c then c - p.2 else c), .int (if c < c - p.2 then c - p.2 else c)] = .ok (.own (.l (iL (psR n c p)))) none := by
  have nn := row_nn n h0 c p
  have e1 := count_with_ok (p.1 : Int) h0 h1 (if c - p.2 < c then c - p.2 else c) (if c < c - p.2 then c - p.2 else c)
  have e1' : m_count_with none [.int (p.1 : Int), .int (n : Int), .int (if c - p.2 < c then c - p.2 else c), .int (if c < c - p.2 then c - p.2 else c)] = .ok (.imm (.int (((rowN n c p).toNat : Nat) : Int))) none := by
    rw [Int.toNat_of_nonneg nn]; exact e1
  clear e1
  unfold psR
  generalize (rowN n c p).toNat = N at *
  generalize (if c - p.2 < c then c - p.2 else c) = a at *
  generalize (if c < c - p.2 then c - p.2 else c) = b at *
  generalize (p.1 : Int) = r at *
  have gm : gMod (.int (r - a)) (.int (n : Int)) = some (.imm (.int ((r - a) % n))) := gMod_i (by omega)
  generalize (r - a) % n = m at *
  have q := lc_ints (xs := nats 0 N) (fun k => a + m + n * k) (i := 5) (fi := itRg1 (frz (fOwn m_count_with (aCons (vI 0) (aCons (vI 1) (aCons (vI 2) (aCons (vI 3) aNil))))))) (fe := frz (fBin gAdd (vI 4) (frz (fBin gMul (vI 1) (vP 5)))))
    (δ := [some (.imm (.int r)), some (.imm (.int (n : Int))), some (.imm (.int a)), some (.imm (.int b)), some (.imm (.int (a + m))), none]) (δ1 := [some (.imm (.int r)), some (.imm (.int (n : Int))), some (.imm (.int a)), some (.imm (.int b)), some (.imm (.int (a + m))), none])
    (itRg1_ok (by omega) (by simp [e1'])) rfl (by rw [nats_len]; omega) (fun k hk => by
      have hk : 0 ≤ k ∧ k < 1000000 := by
        simp [nats] at hk
        obtain ⟨i, hi, rfl⟩ := hk
        omega
      have g := gMul_i (i := (n : Int)) (j := k) (by omega) (by omega)
      simp [g])
  have z : iL ((nats 0 N).map fun k => a + m + n * k) = iL ((List.range N).map fun k : Nat => a + m + n * (k : Int)) := by
    rw [nats_eq, List.map_map]; rfl
  rw [z] at q
  generalize iL ((List.range N).map fun k : Nat => a + m + n * (k : Int)) = L at *
  simp [m_places_with, mir, ini, ioS, ioN, outR, ioOut, g_places_with, gm, q]
end
end K32

namespace K32
open PySem L2 TS
noncomputable section
-- needs: cuts
def carL (s : Int) (t : List Int) (c : Int) : List Int := (rowsL s (least t)).flatMap (psR (least t).length c)
theorem carL_len (s : Int) {t : List Int} (h : Good t) (c : Int) : ((carL s t c).length : Int) = ((rowsL s (least t)).map (rowN (least t).length c)).sum := by
  unfold carL
  generalize rowsL s (least t) = rs
  induction rs with
  | nil => rfl
  | cons p rs ih =>
    have := row_nn (least t).length h.least.pos c p
    simp only [List.flatMap_cons, List.length_append, psR_len, List.map_cons, List.sum_cons]
    omega
theorem cplaces_ok {t : List Int} (h : Good t) (hb : BdT t) (c : Int) {s : Int} (hs : s.natAbs < 2 ^ 255) {m : Int} (hm : ((rowsL s (least t)).map (rowN (least t).length c)).sum ≤ m) (hN : (carL s t c).length ≤ 1000000) : m_crossing_places none [pl t, .int c, .int s, .int m] = .ok (.own (.l (iL (srt (carL s t c))))) none := by
  have hl := h.least
  have e1 := ccount_ok h hb c hs
  have e2 := ranges_ok h hb c hs
  have e3 := period_prop t
  generalize hC : ((rowsL s (least t)).map (rowN (least t).length c)).sum = C at *
  have key := for_inv (xs := rowsL s (least t)) (inj := rowOf c) (tg := tTup 3 (tsCons (tName 6) (tsCons (tName 7) (tsCons (tName 8) tsNil)))) (body := g_crossing_places_4B)
    (δ := [some (.imm (pl t)), some (.imm (.int c)), some (.imm (.int s)), some (.imm (.int m)), some (.imm (.int C)), some (.own (.l [])), none, none, none])
    (fun pre δ => ∃ a b d, δ = [some (.imm (pl t)), some (.imm (.int c)), some (.imm (.int s)), some (.imm (.int m)), some (.imm (.int C)), some (.own (.l (iL (pre.flatMap (psR (least t).length c))))), a, b, d]) ⟨none, none, none, rfl⟩
    (fun pre p post δ hx hI => by
      obtain ⟨a, b, d, rfl⟩ := hI
      have hlen : (pre.flatMap (psR (least t).length c)).length + (psR (least t).length c p).length ≤ 1000000 := by
        unfold carL at hN
        rw [hx, List.flatMap_append, List.length_append, List.flatMap_cons, List.length_append] at hN
        omega
      have e4 := places_with_ok hl.pos hl.len c p (by rw [psR_len] at hlen; omega)
      have ex : mExtend (iL (pre.flatMap (psR (least t).length c))) [.lst (iL (psR (least t).length c p))] = some (.non, iL (pre.flatMap (psR (least t).length c) ++ psR (least t).length c p)) := by
        show (if (iL _).length + (iL _).length ≤ 16777216 then some (D.non, iL _ ++ iL _) else none) = _
        rw [if_pos (by simp only [iL_len]; omega), iL_app]
      have z : (pre ++ [p]).flatMap (psR (least t).length c) = pre.flatMap (psR (least t).length c) ++ psR (least t).length c p := by simp
      rw [z]
      generalize pre.flatMap (psR (least t).length c) ++ psR (least t).length c p = L' at *
      generalize pre.flatMap (psR (least t).length c) = L at *
      generalize psR (least t).length c p = P at *
      unfold rowOf
      generalize (if c - p.2 < c then c - p.2 else c) = A at *
      generalize (if c < c - p.2 then c - p.2 else c) = B at *
      refine ⟨[some (.imm (pl t)), some (.imm (.int c)), some (.imm (.int s)), some (.imm (.int m)), some (.imm (.int C)), some (.own (.l (iL L'))), some (.imm (.int (p.1 : Int))), some (.imm (.int A)), some (.imm (.int B))], .inl ?_, _, _, _, rfl⟩
      simp [e3, e4, ptab_period, ex])
  obtain ⟨δ', ⟨a, b, d, rfl⟩, e⟩ := key
  change _ = SR.nx [_, _, _, _, _, some (.own (.l (iL (carL s t c)))), _, _, _] at e
  have g := gSorted_l (carL s t c)
  generalize srt (carL s t c) = SS at *
  generalize carL s t c = L at *
  have S1 : g_crossing_places_1 [some (.imm (pl t)), some (.imm (.int c)), some (.imm (.int s)), some (.imm (.int m)), none, none, none, none, none] = .nx [some (.imm (pl t)), some (.imm (.int c)), some (.imm (.int s)), some (.imm (.int m)), some (.imm (.int C)), none, none, none, none] := by simp [e1]
  have S2 : g_crossing_places_2 [some (.imm (pl t)), some (.imm (.int c)), some (.imm (.int s)), some (.imm (.int m)), some (.imm (.int C)), none, none, none, none] = .nx [some (.imm (pl t)), some (.imm (.int c)), some (.imm (.int s)), some (.imm (.int m)), some (.imm (.int C)), none, none, none, none] := by
    have : ¬ m < C := by omega
    simp [this]
  have S3 : g_crossing_places_3 [some (.imm (pl t)), some (.imm (.int c)), some (.imm (.int s)), some (.imm (.int m)), some (.imm (.int C)), none, none, none, none] = .nx [some (.imm (pl t)), some (.imm (.int c)), some (.imm (.int s)), some (.imm (.int m)), some (.imm (.int C)), some (.own (.l [])), none, none, none] := by simp
  have S4 : g_crossing_places_4 [some (.imm (pl t)), some (.imm (.int c)), some (.imm (.int s)), some (.imm (.int m)), some (.imm (.int C)), some (.own (.l [])), none, none, none] = .nx [some (.imm (pl t)), some (.imm (.int c)), some (.imm (.int s)), some (.imm (.int m)), some (.imm (.int C)), some (.own (.l (iL L))), a, b, d] := by
    show sFor (itSeq (frz (fOwn m_crossing_ranges (aCons (vI 0) (aCons (vI 1) (aCons (vI 2) aNil)))))) _ _ _ = _
    have : itSeq (frz (fOwn m_crossing_ranges (aCons (vI 0) (aCons (vI 1) (aCons (vI 2) aNil))))) [some (.imm (pl t)), some (.imm (.int c)), some (.imm (.int s)), some (.imm (.int m)), some (.imm (.int C)), some (.own (.l [])), none, none, none] = .ok ((rowsL s (least t)).map (rowOf c)) [some (.imm (pl t)), some (.imm (.int c)), some (.imm (.int s)), some (.imm (.int m)), some (.imm (.int C)), some (.own (.l [])), none, none, none] := by
      simp [e2]
    rw [ap_sFor, this, Res.bindS_ok]
    exact e
  have s4 : ∀ G : FS, mir 9 4 G none [pl t, .int c, .int s, .int m] = outR none (G [some (.imm (pl t)), some (.imm (.int c)), some (.imm (.int s)), some (.imm (.int m)), none, none, none, none, none]) := fun G => by simp [mir, ini, ioS, ioN, List.replicate]
  unfold m_crossing_places g_crossing_places
  rw [s4, ap_sSeq, S1, SR.bind_nx, ap_sSeq, S2, SR.bind_nx, ap_sSeq, S3, SR.bind_nx, ap_sSeq, S4, SR.bind_nx]
  simp [g, outR, ioOut]
theorem carried_up_ok {t : List Int} (h : Good t) (hb : BdT t) (c : Int) {m : Int} (h0 : 0 ≤ m) (hm : upN t c ≤ m) (hN : (carL 1 t c).length ≤ 1000000) : m_carried_up none [pl t, .int c, .int m] = .ok (.own (.l (iL (srt (carL 1 t c))))) none := by
  have e := cplaces_ok h hb c (s := 1) (by decide) hm hN
  have e2 := require2_ok h0
  simp [m_carried_up, mir, ini, ioS, ioN, outR, ioOut, g_carried_up, require1_ok, e2, e]
theorem carried_down_ok {t : List Int} (h : Good t) (hb : BdT t) (c : Int) {m : Int} (h0 : 0 ≤ m) (hm : dnN t c ≤ m) (hN : (carL (-1) t c).length ≤ 1000000) : m_carried_down none [pl t, .int c, .int m] = .ok (.own (.l (iL (srt (carL (-1) t c))))) none := by
  have e := cplaces_ok h hb c (s := -1) (by decide) hm hN
  have e2 := require2_ok h0
  simp [m_carried_down, mir, ini, ioS, ioN, outR, ioOut, g_carried_down, require1_ok, e2, e]
theorem rowsL_mem {s : Int} {u : List Int} {p : Nat × Int} : p ∈ rowsL s u ↔ p.1 < u.length ∧ p.2 = act u p.1 ∧ 0 < p.2 * s := by
  unfold rowsL
  rw [List.mem_filter, enumL_tab, List.mem_map]
  constructor
  · rintro ⟨⟨i, hi, rfl⟩, h⟩
    exact ⟨by simpa using hi, rfl, by simpa using h⟩
  · rintro ⟨h1, h2, h3⟩
    exact ⟨⟨p.1, by simpa using h1, by rw [← h2]⟩, by simpa using h3⟩
theorem carL_nodup {s : Int} {t : List Int} (h : Good t) (c : Int) : (carL s t c).Nodup := by
  have hl := h.least
  have key : ∀ rs : List (Nat × Int), (rs.map Prod.fst).Nodup → (∀ p ∈ rs, p.1 < (least t).length) → (rs.flatMap (psR (least t).length c)).Nodup := by
    intro rs
    induction rs with
    | nil => intro _ _; simp
    | cons p rs ih =>
      intro hn hb
      rw [List.map_cons, List.nodup_cons] at hn
      rw [List.flatMap_cons, List.nodup_append]
      refine ⟨psR_nodup hl.pos c p, ih hn.2 (fun q hq => hb q (by simp [hq])), fun x hx y hy e => ?_⟩
      subst e
      obtain ⟨q, hq, hxq⟩ := List.mem_flatMap.mp hy
      have e1 := ((psR_mem hl.pos c p x).mp hx).1
      have e2 := ((psR_mem hl.pos c q x).mp hxq).1
      have b1 := hb p (by simp)
      have b2 := hb q (by simp [hq])
      rw [e1, Int.emod_eq_of_lt (by omega) (by omega), Int.emod_eq_of_lt (by omega) (by omega)] at e2
      exact hn.1 (List.mem_map.mpr ⟨q, hq, by omega⟩)
  refine key _ ?_ fun p hp => (rowsL_mem.mp hp).1
  have e : ((enumL 0 (least t)).map Prod.fst).Nodup := by
    rw [enumL_tab, List.map_map]
    have : (Prod.fst ∘ fun i : Nat => (i, act (least t) i)) = id := rfl
    rw [this, List.map_id]
    exact List.nodup_range
  exact List.Nodup.sublist (List.Sublist.map _ List.filter_sublist) e
theorem carUp_mem {t : List Int} (h : Good t) (c x : Int) : x ∈ carL 1 t c ↔ x < c ∧ c ≤ mv t x := by
  have hl := h.least
  unfold carL
  rw [List.mem_flatMap]
  rw [show mv t x = x + act (least t) x by rw [least_act h.pos]; rfl]
  constructor
  · rintro ⟨p, hp, hx⟩
    obtain ⟨h1, h2, h3⟩ := rowsL_mem.mp hp
    obtain ⟨k1, k2, k3⟩ := (psR_mem hl.pos c p x).mp hx
    rw [Int.mul_one] at h3
    rw [if_pos (by omega)] at k2
    rw [if_neg (by omega)] at k3
    have : act (least t) x = p.2 := by rw [← act_mod, k1, act_mod, h2]
    rw [this]; omega
  · rintro ⟨k1, k2⟩
    have b1 := Int.emod_nonneg x (show ((least t).length : Int) ≠ 0 by have := hl.pos; omega)
    have b2 := Int.emod_lt_of_pos x (show 0 < ((least t).length : Int) by have := hl.pos; omega)
    obtain ⟨i, ei⟩ := Int.eq_ofNat_of_zero_le b1
    have ea : act (least t) i = act (least t) x := by rw [← ei, act_mod]
    refine ⟨(i, act (least t) i), rowsL_mem.mpr ⟨by show i < _; omega, rfl, ?_⟩, (psR_mem hl.pos c _ x).mpr ⟨?_, ?_, ?_⟩⟩
    · show 0 < act (least t) i * 1; rw [ea]; omega
    · show x % _ = (i : Int) % _; rw [ei, Int.emod_eq_of_lt (by omega) (by omega)]
    · show (if c - act (least t) i < c then _ else _) ≤ x; rw [ea, if_pos (by omega)]; omega
    · show x < (if c < c - act (least t) i then _ else _); rw [ea, if_neg (by omega)]; exact k1
end
end K32

namespace K32
open PySem L2 TS
noncomputable section
-- needs: cplaces
theorem carDn_mem {t : List Int} (h : Good t) (c x : Int) : x ∈ carL (-1) t c ↔ c ≤ x ∧ mv t x < c := by
  have hl := h.least
  unfold carL
  rw [List.mem_flatMap]
  rw [show mv t x = x + act (least t) x by rw [least_act h.pos]; rfl]
  constructor
  · rintro ⟨p, hp, hx⟩
    obtain ⟨h1, h2, h3⟩ := rowsL_mem.mp hp
    obtain ⟨k1, k2, k3⟩ := (psR_mem hl.pos c p x).mp hx
    rw [if_neg (by omega)] at k2
    rw [if_pos (by omega)] at k3
    have : act (least t) x = p.2 := by rw [← act_mod, k1, act_mod, h2]
    rw [this]; omega
  · rintro ⟨k1, k2⟩
    have b1 := Int.emod_nonneg x (show ((least t).length : Int) ≠ 0 by have := hl.pos; omega)
    have b2 := Int.emod_lt_of_pos x (show 0 < ((least t).length : Int) by have := hl.pos; omega)
    obtain ⟨i, ei⟩ := Int.eq_ofNat_of_zero_le b1
    have ea : act (least t) i = act (least t) x := by rw [← ei, act_mod]
    refine ⟨(i, act (least t) i), rowsL_mem.mpr ⟨by show i < _; omega, rfl, ?_⟩, (psR_mem hl.pos c _ x).mpr ⟨?_, ?_, ?_⟩⟩
    · show 0 < act (least t) i * -1; rw [ea]; omega
    · show x % _ = (i : Int) % _; rw [ei, Int.emod_eq_of_lt (by omega) (by omega)]
    · show (if c - act (least t) i < c then _ else _) ≤ x; rw [ea, if_neg (by omega)]; exact k1
    · show x < (if c < c - act (least t) i then _ else _); rw [ea, if_pos (by omega)]; omega
end
end K32

namespace K32
open PySem L2 TS
noncomputable section
-- needs: plan
theorem law_at_ok {t : List Int} (h : 0 < t.length) (x : Int) : m__law_at none [.lst (iL t), .int x] = .ok (.imm (.int (mv t x))) none := by
  have e1 : gMod (.int x) (.int (t.length : Int)) = some (.imm (.int (x % t.length))) := gMod_i (by omega)
  have e2 := ix_mod h x
  simp [m__law_at, mir, ini, ioS, ioN, outR, ioOut, g__law_at, e1, e2, mv, -gIx_l]
end
end K32

namespace K32
open PySem L2 TS
noncomputable section
-- needs:
def Pot (o : OB) : Prop := ∃ a b : Int, o = .l [.int a, .int b] ∧ 0 ≤ a ∧ 0 ≤ b ∧ b < 4294967296
theorem draw_ok {o : OB} (h : Pot o) {m : Int} (h0 : 0 < m) (h1 : m < 1000000000) : ∃ r o', m__law_draw (some o) [.int m] = .ok (.imm (.int r)) (some o') ∧ Pot o' ∧ 0 ≤ r ∧ r < m := by
  obtain ⟨a, b, rfl, ha, hb, hb2⟩ := h
  have hm : m.natAbs < 2 ^ 255 := by omega
  by_cases hp : 0 < a
  · refine ⟨a % m, .l [.int (a / m), .int b], ?_, ⟨_, _, rfl, Int.ediv_nonneg ha (by omega), hb, hb2⟩, Int.emod_nonneg _ (by omega), Int.emod_lt_of_pos _ h0⟩
    simp [m__law_draw, mir, ini, ioS, ioN, outR, ioOut, g__law_draw, atI, ixN, hp, gDivmod_i h0 hm, setOB]
  · have hb' : (b * 39373 + 12227) % 2147483629 < 2147483629 := Int.emod_lt_of_pos _ (by decide)
    have hb0 : 0 ≤ (b * 39373 + 12227) % 2147483629 := Int.emod_nonneg _ (by decide)
    have e1 : gMul (.int b) (.int 39373) = some (.imm (.int (b * 39373))) := gMul_i (by omega) (by decide)
    have e2 : gMul (.int ((b * 39373 + 12227) % 2147483629)) (.int ((b * 39373 + 12227) % 2147483629)) = some (.imm (.int ((b * 39373 + 12227) % 2147483629 * ((b * 39373 + 12227) % 2147483629)))) := gMul_i (by omega) (by omega)
    have e3 : ∀ i : Int, gMod (.int i) (.int 2147483629) = some (.imm (.int (i % 2147483629))) := fun i => gMod_i (by decide)
    have e4 : ∀ i : Int, gMod (.int i) (.int 2147483563) = some (.imm (.int (i % 2147483563))) := fun i => gMod_i (by decide)
    have e5 : ∀ i : Int, gFdiv (.int i) (.int 13) = some (.imm (.int (i / 13))) := fun i => gFdiv_i (by decide) (by decide)
    have e6 : ∀ i : Int, gMod (.int i) (.int m) = some (.imm (.int (i % m))) := fun i => gMod_i h0
    refine ⟨(((b * 39373 + 12227) % 2147483629 * ((b * 39373 + 12227) % 2147483629)) % 2147483563 / 13) % m, .l [.int a, .int ((b * 39373 + 12227) % 2147483629)], ?_, ⟨_, _, rfl, ha, hb0, by omega⟩, Int.emod_nonneg _ (by omega), Int.emod_lt_of_pos _ h0⟩
    simp [m__law_draw, mir, ini, ioS, ioN, outR, ioOut, g__law_draw, atI, ixN, hp, setOB, e1, e2, e3, e4, e5, e6]
end
end K32

namespace K32
open PySem L2 TS
noncomputable section
-- needs: draw
theorem pot_ok (ns : List Int) (k : Nat) (hk : k < 100) : ∃ o, m__law_pot none [.scr (ns.map D.int), .int (k : Int)] = .ok (.own o) none ∧ Pot o := by
  have m23 : gMul (.int 17) (.int (k : Int)) = some (.imm (.int (17 * (k : Int)))) := gMul_i (by decide) (by omega)
  have m79 : gMul (.int 60013) (.int (k : Int)) = some (.imm (.int (60013 * (k : Int)))) := gMul_i (by decide) (by omega)
  have e3 : ∀ i : Int, gMod (.int i) (.int 2147483647) = some (.imm (.int (i % 2147483647))) := fun i => gMod_i (by decide)
  have e4 : ∀ i : Int, gMod (.int i) (.int 2147483587) = some (.imm (.int (i % 2147483587))) := fun i => gMod_i (by decide)
  have e5 : ∀ i : Int, gMul (.int (i % 2147483587)) (.int 48271) = some (.imm (.int (i % 2147483587 * 48271))) := fun i => by
    have h1 := Int.emod_nonneg i (show (2147483587 : Int) ≠ 0 by decide)
    have h2 := Int.emod_lt_of_pos i (show (0 : Int) < 2147483587 by decide)
    exact gMul_i (by omega) (by decide)
  have key : ∀ c : Int, Pot (.l [.int (if c - 1000000000000000000 > 0 then c - 1000000000000000000 else 0), .int ((c % 2147483587 * 48271 + 60013 * (k : Int) + 321) % 2147483647)]) := fun c => by
    refine ⟨_, _, rfl, by split <;> omega, ?_, ?_⟩
    · have := Int.emod_nonneg (c % 2147483587 * 48271 + 60013 * (k : Int) + 321) (show (2147483647 : Int) ≠ 0 by decide); omega
    · have := Int.emod_lt_of_pos (c % 2147483587 * 48271 + 60013 * (k : Int) + 321) (show (0 : Int) < 2147483647 by decide); omega
  by_cases h : k < ns.length
  · have hx : gIx (.scr (ns.map D.int)) (.int (k : Int)) = some (.imm (.int ns[k])) := by
      show (atI (ns.map D.int) (k : Int)).map R.imm = _
      rw [show ns.map D.int = iL ns from rfl, atI_ints, atI_in h]; rfl
    have hl : ((k : Int) < (ns.length : Int)) := by omega
    refine ⟨_, ?_, key (if ns[k] < 0 then -ns[k] else ns[k])⟩
    simp [m__law_pot, mir, ini, ioS, ioN, outR, ioOut, g__law_pot, m23, m79, e3, e4, e5, hx, h, pow_18]
  · refine ⟨_, ?_, key (17 * (k : Int) + 5)⟩
    simp [m__law_pot, mir, ini, ioS, ioN, outR, ioOut, g__law_pot, m23, m79, e3, e4, e5, h, pow_18]
end
end K32

namespace K32
open PySem L2 TS
noncomputable section
-- needs: draw
theorem pick_ok {o : OB} (h : Pot o) {xs : List Int} (h0 : 0 < xs.length) (h1 : xs.length < 1000) : ∃ x o', m__law_pick (some o) [.lst (iL xs)] = .ok (.imm (.int x)) (some o') ∧ Pot o' ∧ x ∈ xs := by
  obtain ⟨r, o1, e1, p1, a1, b1⟩ := draw_ok h (m := (xs.length : Int)) (by omega) (by omega)
  obtain ⟨n, rfl⟩ : ∃ n : Nat, r = n := ⟨r.toNat, by omega⟩
  have hn : n < xs.length := by omega
  refine ⟨xs[n], o1, ?_, p1, List.getElem_mem hn⟩
  have ix := gIx_ints hn
  simp [m__law_pick, mir, ini, ioS, ioN, outR, ioOut, g__law_pick, e1, ix, -gIx_l]
end
end K32

namespace K32
open PySem L2 TS
noncomputable section
-- needs: pick
theorem p7_le {i j : Nat} (h : i ≤ j) : (10000000 : Int) ^ i ≤ 10000000 ^ j := by
  obtain ⟨k, rfl⟩ := Nat.exists_eq_add_of_le h
  induction k with
  | zero => exact Int.le_refl _
  | succ k ih =>
    have := ih (by omega)
    have p : (0 : Int) ≤ 10000000 ^ (i + k) := Int.pow_nonneg (by decide)
    rw [show i + (k + 1) = (i + k) + 1 by omega, Int.pow_succ]
    omega
theorem great_loop {g : Option TS.R} : ∀ (k i : Nat) (o : OB) (n : Int) (s3 : Option TS.R), Pot o → i + k ≤ 10 → 0 ≤ n → n < 10000000 ^ i →
    ∃ o' n' s3', Pot o' ∧ 0 ≤ n' ∧ n' < (10000000 : Int) ^ (i + k) ∧ forL (tName 3) g__law_great_2B (iL (nats i k)) [some (.brw o), g, some (.imm (.int n)), s3] = .nx [some (.brw o'), g, some (.imm (.int n')), s3'] := by
  intro k
  induction k with
  | zero => intro i o n s3 hp _ h0 h1; exact ⟨o, n, s3, hp, h0, h1, by simp [nats, forL, iL]⟩
  | succ k ih =>
    intro i o n s3 hp hi h0 h1
    obtain ⟨r, o1, e1, p1, a1, b1⟩ := draw_ok hp (m := 10000000) (by decide) (by decide)
    have bd : (10000000 : Int) ^ i ≤ 10000000 ^ 9 := p7_le (by omega)
    have b9 : (10000000 : Int) ^ 9 = 1000000000000000000000000000000000000000000000000000000000000000 := by decide
    have m := gMul_i (i := n) (j := 10000000) (by omega) (by decide)
    have up : n * 10000000 + r < 10000000 ^ (i + 1) := by rw [Int.pow_succ]; omega
    obtain ⟨o', n', s3', p', q0, q1, e2⟩ := ih (i + 1) o1 (n * 10000000 + r) (some (.imm (.int (i : Int)))) p1 (by omega) (by omega) up
    refine ⟨o', n', s3', p', q0, by rw [show i + (k + 1) = i + 1 + k by omega]; exact q1, ?_⟩
    rw [← e2, nats_succ]
    simp [forL, pow_7, e1, m]
theorem great_ok {o : OB} (h : Pot o) {g : Nat} (hg : g ≤ 10) : ∃ r o', m__law_great (some o) [.int (g : Int)] = .ok (.imm (.int r)) (some o') ∧ Pot o' ∧ (r.natAbs : Int) < 10000000 ^ g := by
  obtain ⟨o1, n, s3, p1, n0, n1, e1⟩ := great_loop (g := some (.imm (.int (g : Int)))) g 0 o 0 none h (by omega) (by decide) (by decide)
  rw [Nat.zero_add] at n1
  obtain ⟨s, o2, e2, p2, hs⟩ := pick_ok p1 (xs := [1, -1]) (by simp) (by simp)
  have e2' : m__law_pick (some o1) [.lst [.int 1, .int (-1)]] = .ok (.imm (.int s)) (some o2) := e2
  have bd : (10000000 : Int) ^ g ≤ 10000000 ^ 10 := p7_le hg
  have b9 : (10000000 : Int) ^ 10 = 10000000000000000000000000000000000000000000000000000000000000000000000 := by decide
  have hs' : s = 1 ∨ s = -1 := by simpa using hs
  have m := gMul_i (i := n) (j := s) (by omega) (by omega)
  refine ⟨n * s, o2, ?_, p2, by rcases hs' with rfl | rfl <;> omega⟩
  have q : itRg1 (vI 1) [some (.brw o), some (.imm (.int (g : Int))), some (.imm (.int 0)), none] = .ok (iL (nats 0 g)) [some (.brw o), some (.imm (.int (g : Int))), some (.imm (.int 0)), none] := itRg1_ok (by omega) (by simp)
  (unfold m__law_great g__law_great; unfold mir; rw [if_pos (by simp [ioN])]; simp only [ini, ioS, ioN, List.replicate, List.map_cons, List.map_nil, List.length_cons, List.length_nil, List.nil_append, List.cons_append, Nat.zero_add, Nat.reduceAdd, Nat.reduceSub])
  (rw [ap_sSeq]; (conv in (SR.bind _ _) => (arg 1; simp [])); (try rw [SR.bind_nx]))
  rw [ap_sSeq, show g__law_great_2 _ = _ from for_st q e1, SR.bind_nx]
  simp [outR, ioOut, e2', m]
end
end K32

namespace K32
open PySem L2 TS
noncomputable section
-- needs: greatB
theorem turns_ok {o : OB} (h : Pot o) {w : Int} (hw : 0 ≤ w) : ∃ r o', m__law_turns (some o) [.int w] = .ok (.imm (.int r)) (some o') ∧ Pot o' ∧ -1000000000000000000000 < r ∧ r < 1000000000000000000000 := by
  rcases (show w = 0 ∨ w = 1 ∨ 2 ≤ w by omega) with z | z | z
  · subst z
    exact ⟨0, o, by simp [m__law_turns, mir, ini, ioS, ioN, outR, ioOut, g__law_turns], h, by decide, by decide⟩
  · subst z
    obtain ⟨r, o1, e1, p1, a1, b1⟩ := draw_ok h (m := 3) (by decide) (by decide)
    exact ⟨r - 1, o1, by simp [m__law_turns, mir, ini, ioS, ioN, outR, ioOut, g__law_turns, e1], p1, by omega, by omega⟩
  · obtain ⟨r1, o1, e1, p1, a1, b1⟩ := draw_ok h (m := 41) (by decide) (by decide)
    obtain ⟨r2, o2, e2, p2, b2⟩ := great_ok p1 (g := 3) (by decide)
    obtain ⟨r3, o3, e3, p3, a3, b3⟩ := draw_ok p2 (m := 5) (by decide) (by decide)
    obtain ⟨r4, o4, e4, p4, a4, b4⟩ := draw_ok p3 (m := 4) (by decide) (by decide)
    have e2' : m__law_great (some o1) [.int 3] = .ok (.imm (.int r2)) (some o2) := e2
    have p3' : (10000000 : Int) ^ 3 = 1000000000000000000000 := by decide
    rw [p3'] at b2
    have n0 : w ≠ 0 := by omega
    have n1 : w ≠ 1 := by omega
    rcases (show r4 = 0 ∨ r4 = 1 ∨ r4 = 2 ∨ r4 = 3 by omega) with z | z | z | z <;> subst z
    · exact ⟨r1 - 20, o4, by simp [m__law_turns, mir, ini, ioS, ioN, outR, ioOut, g__law_turns, e1, e2', e3, e4, n0, n1, atI, ixN], p4, by omega, by omega⟩
    · exact ⟨r2, o4, by simp [m__law_turns, mir, ini, ioS, ioN, outR, ioOut, g__law_turns, e1, e2', e3, e4, n0, n1, atI, ixN], p4, by omega, by omega⟩
    · exact ⟨0, o4, by simp [m__law_turns, mir, ini, ioS, ioN, outR, ioOut, g__law_turns, e1, e2', e3, e4, n0, n1, atI, ixN], p4, by omega, by omega⟩
    · exact ⟨r3 - 2, o4, by simp [m__law_turns, mir, ini, ioS, ioN, outR, ioOut, g__law_turns, e1, e2', e3, e4, n0, n1, atI, ixN], p4, by omega, by omega⟩
end
end K32

namespace K32
open PySem L2 TS
noncomputable section
-- needs: draw
abbrev shT : FT := fTst (fBinV gNe 2 (frz (fLst aNil)))
abbrev shB : FS := sExpr (toE (fMut 3 mAppend (aCons (fMut 2 mPop (aCons (frz (fOwnIo m__law_draw 0 (aCons (frz (fCal gLen (aOne (vP 2)))) aNil))) aNil)) aNil)))
theorem gNe_nil (xs : List Int) : gNe (.lst (iL xs)) (.lst []) = some (.imm (.bl (!decide (xs = [])))) := gNe_l xs []
theorem shuf_loop (x : Option TS.R) : ∀ (k : Nat) (o : OB) (left mixed : List Int) (fuel : Nat), left.length = k → k < fuel → mixed.length + k ≤ 1000 → Pot o →
    ∃ o' mixed', whileL shT shB fuel [some (.brw o), x, some (.own (.l (iL left))), some (.own (.l (iL mixed)))] = .nx [some (.brw o'), x, some (.own (.l [])), some (.own (.l (iL mixed')))] ∧ Pot o' ∧ mixed'.Perm (mixed ++ left) := by
  intro k
  induction k with
  | zero =>
    intro o left mixed fuel hl hf hm hp
    obtain rfl : left = [] := List.eq_nil_of_length_eq_zero hl
    obtain ⟨f, rfl⟩ : ∃ f, fuel = f + 1 := ⟨fuel - 1, by omega⟩
    refine ⟨o, mixed, ?_, hp, by simp⟩
    have e := gNe_nil []
    simp [whileL, e, iL]
    simp [iL] at e
    simp [e]
  | succ k ih =>
    intro o left mixed fuel hl hf hm hp
    obtain ⟨f, rfl⟩ : ∃ f, fuel = f + 1 := ⟨fuel - 1, by omega⟩
    have hne : left ≠ [] := by intro z; rw [z] at hl; cases hl
    obtain ⟨r, o1, e1, p1, a1, b1⟩ := draw_ok hp (m := (left.length : Int)) (by omega) (by omega)
    obtain ⟨n, rfl⟩ : ∃ n : Nat, r = n := ⟨r.toNat, by omega⟩
    have hn : n < left.length := by omega
    have e2 := gNe_nil left
    have e3 : mPop (iL left) [.int (n : Int)] = some (.int left[n], iL (left.eraseIdx n)) := by
      have c : gd (0 ≤ (n : Int) ∧ (n : Int) < ((iL left).length : Int) ∧ (n : Int) < 9223372036854775808) = true := gd_true ⟨by omega, by simp [iL]; exact hn, by omega⟩
      have g : (iL left)[((n : Int)).toNat]? = some (.int left[n]) := by simp [iL, hn]
      have er : (iL left).eraseIdx ((n : Int)).toNat = iL (left.eraseIdx n) := by simp [iL, erase_map]
      simp only [mPop, c, if_true, g, er, Option.map_some]
    have e4 : ∀ d : Int, mAppend (iL mixed) [.int d] = some (.non, iL (mixed ++ [d])) := fun d => mAppend_int (by omega) d
    have hlen : (left.eraseIdx n).length = k := by rw [List.length_eraseIdx_of_lt hn]; omega
    obtain ⟨o', mixed', e5, p5, q5⟩ := ih o1 (left.eraseIdx n) (mixed ++ [left[n]]) f hlen (by omega) (by simp; omega) p1
    refine ⟨o', mixed', ?_, p5, ?_⟩
    · rw [← e5]
      simp only [whileL]
      simp [e1, e2, e3, e4, hne]
    · refine q5.trans ?_
      rw [List.append_assoc]
      exact List.Perm.append_left _ (by simpa using (erase_perm left n hn))
theorem mixed_ok {o : OB} (h : Pot o) {xs : List Int} (hx : xs.length ≤ 1000) : ∃ ys o', m__law_mixed (some o) [.lst (iL xs)] = .ok (.own (.l (iL ys))) (some o') ∧ Pot o' ∧ ys.Perm xs := by
  obtain ⟨o', ys, e, p, q⟩ := shuf_loop (some (.imm (.lst (iL xs)))) xs.length o xs [] (xs.length + 2) rfl (by omega) (by simpa using hx) h
  refine ⟨ys, o', ?_, p, by simpa using q⟩
  have e2 : gList [.lst (iL xs)] = some (.own (.l (iL xs))) := rfl
  have e3 : iL [] = [] := rfl
  rw [e3] at e
  simp [m__law_mixed, mir, ini, ioS, ioN, outR, ioOut, g__law_mixed, e2, sWhile, muL, e]
end
end K32

namespace K32
open PySem L2 TS
noncomputable section
-- needs: turnsB mixed
def RtB (goals : List Int) (n f : Int) (found : List Int) : Prop := ∀ j : Nat, j < found.length → ∃ g u : Int, goals[j]? = some g ∧ -1000000000000000000000 < u ∧ u < 1000000000000000000000 ∧ found[j]? = some (g - j + n * f * u)
theorem table_ok {o : OB} (h : Pot o) {n f : Int} (hn : 0 < n ∧ n ≤ 200) (hf : 0 ≤ f ∧ f ≤ 100) : ∃ goals t o', m__law_table (some o) [.int n, .int f] = .ok (.own (.l (iL t))) (some o') ∧ Pot o' ∧ goals.Perm (nats 0 n.toNat) ∧ t.length = n.toNat ∧ RtB goals n f t := by
  obtain ⟨k, rfl⟩ : ∃ k : Nat, n = k := ⟨n.toNat, by omega⟩
  have hlen := nats_len 0 k
  obtain ⟨goals, o1, e1, p1, q1⟩ := mixed_ok h (xs := nats 0 k) (by omega)
  have hg : goals.length = k := by rw [q1.length_eq, hlen]
  obtain ⟨w, o2, e2, p2, w0, w1⟩ := draw_ok p1 (m := 4) (by decide) (by decide)
  have q := fLRg1_ok (f := vI 1) (δ := [some (.brw o), some (.imm (.int (k : Int))), some (.imm (.int f)), none, none, none]) (k := k) (by omega) (by simp)
  obtain ⟨acc, δ2, hl, ⟨o', ys, p', hy, hr, hz, hd⟩, e⟩ := lc_inv (xs := nats 0 k) (inj := D.int) (i := 5) (fi := itRg1 (vI 1)) (fe := (frz (fBin gAdd (frz (fBin gSub (frz (fBin gIx (vI 3) (vP 5))) (vP 5))) (frz (fBin gMul (frz (fBin gMul (vI 1) (vP 2))) (frz (fOwnIo m__law_turns 0 (aCons (vI 4) aNil))))))))
    (δ := [some (.brw o2), some (.imm (.int (k : Int))), some (.imm (.int f)), some (.imm (.lst (iL goals))), some (.imm (.int w)), none]) (δ1 := [some (.brw o2), some (.imm (.int (k : Int))), some (.imm (.int f)), some (.imm (.lst (iL goals))), some (.imm (.int w)), none])
    (fun pre acc δ => ∃ o' ys, Pot o' ∧ acc = iL ys ∧ RtB goals k f ys ∧ ys.length = pre.length ∧ δ = [some (.brw o'), some (.imm (.int (k : Int))), some (.imm (.int f)), some (.imm (.lst (iL goals))), some (.imm (.int w)), none])
    (itRg1_ok (by omega) (by simp)) rfl (by rw [nats_len]; omega) ⟨o2, [], p2, rfl, fun j hj => absurd hj (by simp), rfl, rfl⟩ (fun pre x post acc δ hx ⟨o3, ys, p3, ha, hr, hz, hd⟩ => by
      obtain ⟨rfl, hi⟩ := nats_pre hx
      subst ha hd
      obtain ⟨u, o4, e4, p4, u0, u1⟩ := turns_ok p3 (w := w) w0
      have ix := gIx_ints (xs := goals) (n := pre.length) (by omega)
      have m1 := gMul_i (i := (k : Int)) (j := f) (by omega) (by omega)
      have kb : (k : Int) * f ≤ 200 * 100 := Int.le_trans (Int.mul_le_mul_of_nonneg_right hn.2 hf.1) (Int.mul_le_mul_of_nonneg_left hf.2 (by decide))
      have kp : 0 ≤ (k : Int) * f := Int.mul_nonneg (by omega) hf.1
      have m2 := gMul_i (i := (k : Int) * f) (j := u) (by omega) (by omega)
      refine ⟨.int (goals[pre.length] - (pre.length : Int) + (k : Int) * f * u), _, by simp [e4, ix, m1, m2, -gIx_l]; rfl, o4, ys ++ [goals[pre.length] - (pre.length : Int) + (k : Int) * f * u], p4, by simp [iL], ?_, by simp [hz], rfl⟩
      intro j hj
      by_cases h : j < ys.length
      · obtain ⟨g, v, h1, h2, h3, h5⟩ := hr j h
        exact ⟨g, v, h1, h2, h3, by rw [List.getElem?_append_left h]; exact h5⟩
      · have : j = pre.length := by simp at hj; omega
        subst this
        exact ⟨goals[pre.length], u, List.getElem?_eq_getElem (by omega), u0, u1, by rw [List.getElem?_append_right (by omega)]; simp [hz]⟩)
  subst hy hd
  refine ⟨goals, ys, o', ?_, p', by simpa using q1, by simp at hl; rw [hl, nats_len]; simp, hr⟩
  (unfold m__law_table g__law_table; unfold mir; rw [if_pos (by simp [ioN])]; simp only [ini, ioS, ioN, List.replicate, List.map_cons, List.map_nil, List.length_cons, List.length_nil, List.nil_append, List.cons_append, Nat.zero_add, Nat.reduceAdd, Nat.reduceSub])
  (rw [ap_sSeq]; (conv in (SR.bind _ _) => (arg 1; simp [q, e1, e2])); (try rw [SR.bind_nx]))
  rw [show g__law_table_2 = sRet _ from rfl, ap_sRet, e]
  simp [outR, ioOut]
theorem table_good {o : OB} (h : Pot o) {n f : Int} (hn : 0 < n ∧ n ≤ 200) (hf : 0 ≤ f ∧ f ≤ 100) : ∃ t o', m__law_table (some o) [.int n, .int f] = .ok (.own (.l (iL t))) (some o') ∧ Pot o' ∧ t.length = n.toNat ∧ Good t ∧ ∀ x ∈ t, -100000000000000000000000000 < x ∧ x < 100000000000000000000000000 := by
  obtain ⟨goals, t, o', e, p, q, l, r⟩ := table_ok h hn hf
  obtain ⟨k, rfl⟩ : ∃ k : Nat, n = k := ⟨n.toNat, by omega⟩
  rw [Int.toNat_natCast] at q l
  refine ⟨t, o', e, p, l, good_goals (by omega) (by omega) q l (fun j hj => ?_), fun x hx => ?_⟩
  · obtain ⟨g, u, h1, h2, h3, h5⟩ := r j hj
    exact ⟨g, f * u, h1, by rw [h5, Int.mul_assoc]⟩
  · obtain ⟨j, hj, rfl⟩ := List.getElem_of_mem hx
    obtain ⟨g, u, h1, h2, h3, h5⟩ := r j hj
    rw [List.getElem?_eq_getElem hj] at h5
    have h5 := Option.some.inj h5
    rw [h5]
    obtain ⟨g0, g1⟩ := nats_mem (q.mem_iff.mp (List.mem_of_getElem? h1))
    have kb : (k : Int) * f ≤ 200 * 100 := Int.le_trans (Int.mul_le_mul_of_nonneg_right hn.2 hf.1) (Int.mul_le_mul_of_nonneg_left hf.2 (by decide))
    have kp : 0 ≤ (k : Int) * f := Int.mul_nonneg (by omega) hf.1
    have b1 : (k : Int) * f * u ≤ (k : Int) * f * 1000000000000000000000 := Int.mul_le_mul_of_nonneg_left (by omega) kp
    have b2 : (k : Int) * f * (-1000000000000000000000) ≤ (k : Int) * f * u := Int.mul_le_mul_of_nonneg_left (by omega) kp
    omega
end
end K32

namespace K32
open PySem L2 TS
noncomputable section
-- needs: turnsB mixed
def clT (goals : List Int) : List Int := (enumL 0 goals).map fun p => p.2 - (p.1 : Int)
theorem clT_len (goals : List Int) : (clT goals).length = goals.length := by simp [clT, enumL_len]
theorem clT_get (goals : List Int) (j : Nat) : (clT goals)[j]? = (goals[j]?).map fun g => g - (j : Int) := by
  unfold clT
  rw [List.getElem?_map, enumL_get]
  cases goals[j]? <;> simp
theorem clT_good {goals : List Int} {n : Nat} (h0 : 0 < n) (h1 : n ≤ 2520) (q : goals.Perm (nats 0 n)) : Good (clT goals) ∧ (clT goals).length = n ∧ ∀ x ∈ clT goals, -2520 < x ∧ x < 2520 := by
  have gl : goals.length = n := by rw [q.length_eq, nats_len]
  have l : (clT goals).length = n := by rw [clT_len, gl]
  refine ⟨good_goals h0 h1 q l fun j hj => ?_, l, fun x hx => ?_⟩
  · have hj' : j < goals.length := by rw [clT_len] at hj; exact hj
    exact ⟨goals[j], 0, List.getElem?_eq_getElem hj', by rw [clT_get, List.getElem?_eq_getElem hj']; simp⟩
  · obtain ⟨j, hj, rfl⟩ := List.getElem_of_mem hx
    have hj' : j < goals.length := by rw [clT_len] at hj; exact hj
    have e := clT_get goals j
    rw [List.getElem?_eq_getElem hj, List.getElem?_eq_getElem hj'] at e
    have e : (clT goals)[j] = goals[j] - (j : Int) := Option.some.inj e
    rw [e]
    obtain ⟨g0, g1⟩ := nats_mem (q.mem_iff.mp (List.getElem_mem hj'))
    rw [l] at hj
    omega
end
end K32

namespace K32
open PySem L2 TS
noncomputable section
-- needs: cdown lawat potB tableB closedT
theorem upL_T {t : List Int} (hp : 0 < t.length) (c : Int) : ((rowsL 1 t).map (rowN t.length c)).sum = upT t c := by
  unfold upT
  rw [rows_sum]
  refine sm_congr fun i _ => ?_
  have sg := crs_sign hp c (i : Int)
  simp only [Int.mul_one]
  unfold crs at *
  simp only [rowN, Int.toNat_natCast]
  generalize act t (i : Int) = x at *
  rcases Int.lt_trichotomy x 0 with hx | hx | hx
  · rw [if_neg (by omega), if_neg (by have := sg.2 (by omega); omega)]
  · subst hx; simp
  · rw [if_pos (by omega), if_pos (by omega), if_neg (by omega), show (i : Int) - (c - x) = i + x - c by omega]
    have := sg.1 (by omega)
    split <;> omega
theorem dnL_T {t : List Int} (hp : 0 < t.length) (c : Int) : ((rowsL (-1) t).map (rowN t.length c)).sum = dnT t c := by
  unfold dnT
  rw [rows_sum]
  refine sm_congr fun i _ => ?_
  have sg := crs_sign hp c (i : Int)
  unfold crs at *
  simp only [rowN, Int.toNat_natCast]
  generalize act t (i : Int) = x at *
  rcases Int.lt_trichotomy x 0 with hx | hx | hx
  · rw [if_pos (by omega), if_neg (by omega), if_pos (by omega), show (i : Int) - (c - x) = i + x - c by omega]
    have := sg.2 (by omega)
    split <;> omega
  · subst hx; simp
  · rw [if_neg (by omega), if_neg (by have := sg.1 (by omega); omega)]
def cntN (s : Int) (t : List Int) (c : Int) : Int := ((rowsL s (least t)).map (rowN (least t).length c)).sum
def sgn2 (s : Int) : Prop := s = 1 ∨ s = -1
theorem cntL_N {t : List Int} (h : Good t) (c : Int) {s : Int} (hs : sgn2 s) : ((rowsL s t).map (rowN t.length c)).sum = cntN s t c := by
  have u : cntN 1 t c = upT t c := by
    show ((rowsL 1 (least t)).map (rowN (least t).length c)).sum = _
    rw [upL_T h.least.pos, upT_least h]
  rcases hs with rfl | rfl
  · rw [upL_T h.pos, u]
  · have a := up_dn h c
    have b := upT_dnT h c
    have u2 : upN t c = upT t c := u
    rw [dnL_T h.pos]
    show _ = dnN t c
    omega
theorem spans_ok {t : List Int} (h : Good t) (hb : BdT t) (c : Int) {s : Int} (hs : sgn2 s) : m__law_spans none [.lst (iL t), .int c, .int s] = .ok (.own (.l ((rowsL s t).map (rowOf c)))) none := by
  have hl := h.len
  obtain ⟨δ', ⟨a4, a5, a6, rfl⟩, e⟩ := for_inv (xs := enumL 0 t) (inj := fun p => .tup [.int (p.1 : Int), .int p.2]) (tg := tTup 2 (tsCons (tName 4) (tsCons (tName 5) tsNil))) (body := g__law_spans_2B)
    (δ := [some (.imm (.lst (iL t))), some (.imm (.int c)), some (.imm (.int s)), some (.own (.l [])), none, none, none])
    (fun pre δ => ∃ a4 a5 a6, δ = [some (.imm (.lst (iL t))), some (.imm (.int c)), some (.imm (.int s)), some (.own (.l ((pre.filter fun p => decide (0 < p.2 * s)).map (rowOf c)))), a4, a5, a6]) ⟨none, none, none, rfl⟩
    (fun pre p post δ hx ⟨a4, a5, a6, hd⟩ => by
      subst hd
      have hm : p ∈ enumL 0 t := by rw [hx]; simp
      have pb := hb _ (enumL_mem hm).2.2
      have mm : gMul (.int p.2) (.int s) = some (.imm (.int (p.2 * s))) := gMul_i pb (by rcases hs with rfl | rfl <;> decide)
      have hlen : (pre.filter fun p => decide (0 < p.2 * s)).length < 16777216 := by
        have := List.length_filter_le (fun p : Nat × Int => decide (0 < p.2 * s)) pre
        have : pre.length ≤ (enumL 0 t).length := by rw [hx]; simp
        rw [enumL_len] at this
        omega
      by_cases z : 0 < p.2 * s
      · have sr : srt [c, c - p.2] = [if c - p.2 < c then c - p.2 else c, if c < c - p.2 then c - p.2 else c] := by
          have pe : (srt [c, c - p.2]).Perm [c, c - p.2] := srt_perm _
          have le := srt_le [c, c - p.2]
          have hl2 := pe.length_eq
          generalize srt [c, c - p.2] = L at *
          match L, hl2 with
          | [u, v], _ =>
            have hle : u ≤ v := by simpa using le
            have m1 : u = c ∧ v = c - p.2 ∨ u = c - p.2 ∧ v = c := by
              have h1 : u ∈ [c, c - p.2] := pe.mem_iff.mp (by simp)
              have h2 : c ∈ [u, v] := pe.mem_iff.mpr (by simp)
              have h3 : c - p.2 ∈ [u, v] := pe.mem_iff.mpr (by simp)
              have h4 : v ∈ [c, c - p.2] := pe.mem_iff.mp (by simp)
              simp only [List.mem_cons, List.not_mem_nil, or_false] at h1 h2 h3 h4
              omega
            have e1 : u = (if c - p.2 < c then c - p.2 else c) := by split <;> omega
            have e2 : v = (if c < c - p.2 then c - p.2 else c) := by split <;> omega
            rw [e1, e2]
        have gs := gSorted_l [c, c - p.2]
        rw [sr] at gs
        have gs : gSorted [.lst [.int c, .int (c - p.2)]] = some (.own (.l [.int (if c - p.2 < c then c - p.2 else c), .int (if c < c - p.2 then c - p.2 else c)])) := gs
        have i0 : atI [D.int (if c - p.2 < c then c - p.2 else c), .int (if c < c - p.2 then c - p.2 else c)] 0 = some (.int (if c - p.2 < c then c - p.2 else c)) := rfl
        have i1 : atI [D.int (if c - p.2 < c then c - p.2 else c), .int (if c < c - p.2 then c - p.2 else c)] 1 = some (.int (if c < c - p.2 then c - p.2 else c)) := rfl
        have ap : mAppend ((pre.filter fun p => decide (0 < p.2 * s)).map (rowOf c)) [rowOf c p] = some (.non, ((pre ++ [p]).filter fun p => decide (0 < p.2 * s)).map (rowOf c)) := by
          have : ((pre.filter fun p => decide (0 < p.2 * s)).map (rowOf c)).length < 16777216 := by rw [List.length_map]; exact hlen
          simp only [mAppend, this, if_true]
          rw [List.filter_append, List.map_append]
          simp [z]
        refine ⟨[some (.imm (.lst (iL t))), some (.imm (.int c)), some (.imm (.int s)), some (.own (.l (((pre ++ [p]).filter fun p => decide (0 < p.2 * s)).map (rowOf c)))), some (.imm (.int (p.1 : Int))), some (.imm (.int p.2)), some (.imm (.lst [.int (if c - p.2 < c then c - p.2 else c), .int (if c < c - p.2 then c - p.2 else c)]))], .inl ?_, _, _, _, rfl⟩
        unfold rowOf at ap ⊢
        generalize ((pre ++ [p]).filter fun p => decide (0 < p.2 * s)).map _ = A2 at *
        generalize (pre.filter fun p => decide (0 < p.2 * s)).map _ = A1 at *
        generalize (if c - p.2 < c then c - p.2 else c) = U at *
        generalize (if c < c - p.2 then c - p.2 else c) = W at *
        generalize iL t = T at *
        simp [mm, z, gs, i0, i1, ap, OB.toD]
      · have ef : ((pre ++ [p]).filter fun p => decide (0 < p.2 * s)) = pre.filter fun p => decide (0 < p.2 * s) := by rw [List.filter_append]; simp [z]
        refine ⟨[some (.imm (.lst (iL t))), some (.imm (.int c)), some (.imm (.int s)), some (.own (.l ((pre.filter fun p => decide (0 < p.2 * s)).map (rowOf c)))), some (.imm (.int (p.1 : Int))), some (.imm (.int p.2)), a6], .inl ?_, _, _, _, by rw [ef]⟩
        generalize (pre.filter fun p => decide (0 < p.2 * s)).map (rowOf c) = A1 at *
        generalize iL t = T at *
        simp [mm, z])
  have it : itEnum (vI 0) [some (.imm (.lst (iL t))), some (.imm (.int c)), some (.imm (.int s)), some (.own (.l [])), none, none, none] = .ok ((enumL 0 t).map fun p => .tup [.int (p.1 : Int), .int p.2]) [some (.imm (.lst (iL t))), some (.imm (.int c)), some (.imm (.int s)), some (.own (.l [])), none, none, none] := by simp [enumD_map]
  unfold rowsL
  generalize ((enumL 0 t).filter fun p => decide (0 < p.2 * s)).map (rowOf c) = RW at *
  generalize (enumL 0 t).map _ = EN at *
  generalize iL t = T at *
  (unfold m__law_spans g__law_spans; unfold mir; rw [if_pos (by simp [ioN])]; simp only [ini, ioS, ioN, List.replicate, List.map_cons, List.map_nil, List.length_cons, List.length_nil, List.nil_append, List.cons_append, Nat.zero_add, Nat.reduceAdd, Nat.reduceSub])
  (rw [ap_sSeq]; (conv in (SR.bind _ _) => (arg 1; simp [])); (try rw [SR.bind_nx]))
  rw [ap_sSeq, show g__law_spans_2 _ = _ from for_st it e, SR.bind_nx]
  simp [outR, ioOut]
theorem span_q {n : Nat} (h0 : 0 < n) (a b p : Int) : (b - 1 - p) / n - (a - 1 - p) / n = (p - a) / n - (p - b) / n := by
  have key : ∀ y : Int, (-y - 1) / (n : Int) = -(y / n) - 1 := fun y => by
    have e1 := Int.emod_add_mul_ediv y n
    have e2 := Int.emod_nonneg y (show (n : Int) ≠ 0 by omega)
    have e3 := Int.emod_lt_of_pos y (show (0 : Int) < n by omega)
    have e4 := Int.emod_add_mul_ediv (-y - 1) n
    have e5 := Int.emod_nonneg (-y - 1) (show (n : Int) ≠ 0 by omega)
    have e6 := Int.emod_lt_of_pos (-y - 1) (show (0 : Int) < n by omega)
    have : (n : Int) * ((-y - 1) / n + y / n + 1) = n - 1 - y % n - (-y - 1) % n := by
      rw [Int.mul_add, Int.mul_add]; omega
    have hz : (-y - 1) / (n : Int) + y / n + 1 = 0 := by
      generalize (-y - 1) / (n : Int) + y / n + 1 = q at this
      rcases Int.lt_trichotomy q 0 with z | z | z
      · have : (n : Int) * q ≤ n * (-1) := Int.mul_le_mul_of_nonneg_left (by omega) (by omega)
        omega
      · exact z
      · have : (n : Int) * 1 ≤ n * q := Int.mul_le_mul_of_nonneg_left (by omega) (by omega)
        omega
    omega
  have k1 := key (b - 1 - p)
  have k2 := key (a - 1 - p)
  rw [show -(b - 1 - p) - 1 = p - b by omega] at k1
  rw [show -(a - 1 - p) - 1 = p - a by omega] at k2
  omega
theorem law_count_ok {t : List Int} (h : Good t) (hb : BdT t) (c : Int) {s : Int} (hs : sgn2 s) : m__law_count none [.lst (iL t), .int c, .int s] = .ok (.imm (.int (cntN s t c))) none := by
  have hp := h.pos
  have hl := h.len
  have sp := spans_ok h hb c hs
  have g1 : ∀ i : Int, gFdiv (.int i) (.int (t.length : Int)) = some (.imm (.int (i / t.length))) := fun i => gFdiv_i (by omega) (by omega)
  obtain ⟨δ', ⟨a5, a6, a7, rfl⟩, e⟩ := for_inv (xs := rowsL s t) (inj := rowOf c) (tg := tTup 3 (tsCons (tName 5) (tsCons (tName 6) (tsCons (tName 7) tsNil)))) (body := g__law_count_2B)
    (δ := [some (.imm (.lst (iL t))), some (.imm (.int c)), some (.imm (.int s)), some (.imm (.int 0)), some (.imm (.int (t.length : Int))), none, none, none])
    (fun pre δ => ∃ a5 a6 a7, δ = [some (.imm (.lst (iL t))), some (.imm (.int c)), some (.imm (.int s)), some (.imm (.int (pre.map (rowN t.length c)).sum)), some (.imm (.int (t.length : Int))), a5, a6, a7]) ⟨none, none, none, rfl⟩
    (fun pre p post δ hx ⟨a5, a6, a7, hd⟩ => by
      subst hd
      refine ⟨[some (.imm (.lst (iL t))), some (.imm (.int c)), some (.imm (.int s)), some (.imm (.int ((pre ++ [p]).map (rowN t.length c)).sum)), some (.imm (.int (t.length : Int))), some (.imm (.int (p.1 : Int))), some (.imm (.int (if c - p.2 < c then c - p.2 else c))), some (.imm (.int (if c < c - p.2 then c - p.2 else c)))], .inl ?_, _, _, _, rfl⟩
      have q : ((pre ++ [p]).map (rowN t.length c)).sum = (pre.map (rowN t.length c)).sum + ((if c < c - p.2 then c - p.2 else c) - 1 - (p.1 : Int)) / t.length - ((if c - p.2 < c then c - p.2 else c) - 1 - (p.1 : Int)) / t.length := by
        rw [List.map_append, List.sum_append]
        simp only [List.map_cons, List.map_nil, List.sum_cons, List.sum_nil, rowN]
        have := span_q hp (if c - p.2 < c then c - p.2 else c) (if c < c - p.2 then c - p.2 else c) (p.1 : Int)
        omega
      rw [q]
      unfold rowOf
      generalize (pre.map (rowN t.length c)).sum = S0 at *
      generalize (if c - p.2 < c then c - p.2 else c) = U at *
      generalize (if c < c - p.2 then c - p.2 else c) = W at *
      generalize iL t = T at *
      simp [g1])
  rw [cntL_N h c hs] at e
  have it : itSeq (frz (fOwn m__law_spans (aCons (vI 0) (aCons (vI 1) (aCons (vI 2) aNil))))) [some (.imm (.lst (iL t))), some (.imm (.int c)), some (.imm (.int s)), some (.imm (.int 0)), some (.imm (.int (t.length : Int))), none, none, none] = .ok ((rowsL s t).map (rowOf c)) [some (.imm (.lst (iL t))), some (.imm (.int c)), some (.imm (.int s)), some (.imm (.int 0)), some (.imm (.int (t.length : Int))), none, none, none] := by
    generalize (rowsL s t).map (rowOf c) = RW at *
    generalize iL t = T at *
    simp [sp, OB.toD]
  have ln : gLen [.lst (iL t)] = some (.imm (.int (t.length : Int))) := by rw [gLen_l, iL_len]
  generalize cntN s t c = C at *
  generalize (rowsL s t).map (rowOf c) = RW at *
  generalize iL t = T at *
  (unfold m__law_count g__law_count; unfold mir; rw [if_pos (by simp [ioN])]; simp only [ini, ioS, ioN, List.replicate, List.map_cons, List.map_nil, List.length_cons, List.length_nil, List.nil_append, List.cons_append, Nat.zero_add, Nat.reduceAdd, Nat.reduceSub])
  (rw [ap_sSeq]; (conv in (SR.bind _ _) => (arg 1; simp [ln])); (try rw [SR.bind_nx]))
  rw [ap_sSeq, show g__law_count_2 _ = _ from for_st it e, SR.bind_nx]
  simp [outR, ioOut]
end
end K32

namespace K32
open PySem L2 TS
noncomputable section
-- needs: plan
def numT (i : Int) : Str := (PyData.int i).shown
theorem fine_int {i : Int} (h : i.natAbs < 2 ^ 255) : fine (.int i) := by unfold fine; exact h
def innerT (xs : List Int) : Str := Txt.join "," (xs.map numT)
def TT (xs : List Int) : Str := "[" ++ innerT xs ++ "]"
end
end K32

namespace K32
open PySem L2 TS
noncomputable section
-- needs: shown plan
end
end K32

namespace K32
open PySem L2 TS
noncomputable section
-- needs: k32a repru
def numX (i : Int) : Str := (PyData.int i).shown
theorem numX_ok {i : Int} (h : i.natAbs < 2 ^ 255) : gRepr [.int i] = some (.imm (.str (numX i))) ∧ gReprD (.int i) = some (numX i) ∧ PyData.strOk (numX i) = true := by
  have f := fine_int h
  have sh := fine_show _ f
  refine ⟨repr_fine (p := .int i) (by simp [toP]) f (by simp [PyData.depth]) (by simp [PyData.bulk]), ?_, fine_text _ f⟩
  have hl := PyData.shown_le_bulk 80 (by decide) (.int i) sh.2.2
  simp only [PyData.bulk] at hl
  have hs : shOkD (.int i) = true := gd_true ⟨sh.1, by simp [PyData.depth], by show _ ≤ 16777216; omega⟩
  show (if shOkD (.int i) then some _ else none) = _
  rw [hs]; rfl
theorem noLams_i : ∀ xs : List Int, noLams (iL xs) = true
  | [] => rfl
  | x :: xs => by
    show (noLam (.int x) && noLams (iL xs)) = true
    rw [noLams_i xs]; rfl
theorem told_list (ds : List D) : m__law_told (.ok ds []) none [.lam] = .ok (.nst false [.inl (.str "told"), .inr (.l ds)]) none := by
  (unfold m__law_told g__law_told; unfold mir; rw [if_pos (by simp [ioN])]; simp only [ini, ioS, ioN, List.replicate, List.map_cons, List.map_nil, List.length_cons, List.length_nil, List.nil_append, List.cons_append, Nat.zero_add, Nat.reduceAdd, Nat.reduceSub])
  (rw [ap_sSeq]; (conv in (SR.bind _ _) => (arg 1; simp [])); (try rw [SR.bind_nx]))
  simp [sTryN, fResO, outR, ioOut]
theorem told_many {i : Int} (h : i.natAbs < 2 ^ 255) : m__law_told (.exc ⟨116, [.int i]⟩ []) none [.lam] = .ok (.own (.l [.str "many", .str (numX i), .bl true])) none := by
  have t := (numX_ok h).2.1
  have tm : xm_TooMany 116 = some true := rfl
  (unfold m__law_told g__law_told; unfold mir; rw [if_pos (by simp [ioN])]; simp only [ini, ioS, ioN, List.replicate, List.map_cons, List.map_nil, List.length_cons, List.length_nil, List.nil_append, List.cons_append, Nat.zero_add, Nat.reduceAdd, Nat.reduceSub])
  (rw [ap_sSeq]; (conv in (SR.bind _ _) => (arg 1; simp [])); (try rw [SR.bind_nx]))
  simp [sTryN, fResO, outR, ioOut, hCons, tm, xFldT, xFld, xf_many, fReprD, xIs, xi_LimitError, xi_ArithmeticError, xi_TooLong, fNotV, t]
theorem lam_list {ixs : List Nat} {fb : FE} {δ δ2 : Sl} {xs : List Int} (hz : frzS ixs δ = δ) (hb : fb (immP δ) = .ok (.own (.l (iL xs))) δ2) : fLamO ixs m__law_told fb δ = .ok (.nst false [.inl (.str "told"), .inr (.l (iL xs))]) δ := by
  unfold fLamO thkO
  rw [hz, hb]
  show outLO (m__law_told (.ok (iL xs) []) none [.lam]) δ = _
  rw [told_list]
  have n : ([.inl (.str "told"), .inr (.l (iL xs))] : List (D ⊕ OB)).all noLamP = true := by
    simp only [List.all_cons, List.all_nil, Bool.and_true, Bool.and_eq_true]
    exact ⟨rfl, show noLams (iL xs) = true from noLams_i xs⟩
  unfold outLO
  simp only [n, if_true]
theorem lam_many {ixs : List Nat} {fb : FE} {δ δ2 : Sl} {i : Int} (h : i.natAbs < 2 ^ 255) (hz : frzS ixs δ = δ) (hb : fb (immP δ) = .exc ⟨116, [.int i]⟩ δ2) : fLamO ixs m__law_told fb δ = .ok (.own (.l [.str "many", .str (numX i), .bl true])) δ := by
  unfold fLamO thkO
  rw [hz, hb]
  show outLO (m__law_told (.exc ⟨116, [.int i]⟩ []) none [.lam]) δ = _
  rw [told_many h]
  rfl
theorem row_le {n : Nat} (h0 : 0 < n) (c : Int) (p : Nat × Int) : rowN n c p ≤ p.2.natAbs := by
  unfold rowN
  have key : ∀ y d : Int, 0 ≤ d → (y + d) / n ≤ y / n + d := fun y d hd => by
    have e : (y + n * d) / (n : Int) = y / n + d := Int.add_mul_ediv_left y d (by omega)
    rw [← e]
    apply Int.ediv_le_ediv (by omega)
    have : 1 * d ≤ (n : Int) * d := Int.mul_le_mul_of_nonneg_right (by omega) hd
    omega
  by_cases hp : 0 < p.2
  · rw [if_pos (by omega), if_neg (by omega)]
    have := key ((p.1 : Int) - c) p.2 (by omega)
    rw [show (p.1 : Int) - c + p.2 = p.1 - (c - p.2) by omega] at this
    omega
  · rw [if_neg (by omega)]
    by_cases hz : p.2 = 0
    · rw [hz]; simp
    · rw [if_pos (by omega)]
      have := key ((p.1 : Int) - (c - p.2)) (-p.2) (by omega)
      rw [show (p.1 : Int) - (c - p.2) + -p.2 = p.1 - c by omega] at this
      omega
theorem sum_le_mul {α : Type} (f : α → Int) (B : Int) : ∀ l : List α, (∀ x ∈ l, f x ≤ B) → (l.map f).sum ≤ l.length * B
  | [], _ => by simp
  | x :: l, h => by
    have := sum_le_mul f B l fun y hy => h y (by simp [hy])
    have := h x (by simp)
    rw [List.map_cons, List.sum_cons, List.length_cons, Int.natCast_succ, Int.add_mul]
    omega
theorem sum_nn {α : Type} (f : α → Int) : ∀ l : List α, (∀ x ∈ l, 0 ≤ f x) → 0 ≤ (l.map f).sum
  | [], _ => by simp
  | x :: l, h => by
    have := sum_nn f l fun y hy => h y (by simp [hy])
    have := h x (by simp)
    rw [List.map_cons, List.sum_cons]; omega
theorem cnt_bd {t : List Int} (h : Good t) (hb : ∀ x ∈ t, x.natAbs < 2 ^ 200) (s c : Int) : 0 ≤ cntN s t c ∧ (cntN s t c).natAbs < 2 ^ 255 := by
  have hl := h.least
  have hbl : ∀ x ∈ least t, x.natAbs < 2 ^ 200 := fun x hx => hb x (List.mem_of_mem_take hx)
  have hlen : (rowsL s (least t)).length ≤ 2520 := by
    have := List.length_filter_le (fun p : Nat × Int => decide (0 < p.2 * s)) (enumL 0 (least t))
    rw [enumL_len] at this
    have := hl.len
    unfold rowsL; omega
  have a := sum_le_mul (rowN (least t).length c) (2 ^ 200) (rowsL s (least t)) (fun p hp => by
    have := row_le hl.pos c p
    have hm : p ∈ enumL 0 (least t) := (List.mem_filter.mp hp).1
    have := hbl _ (enumL_mem hm).2.2
    omega)
  have b := sum_nn (rowN (least t).length c) (rowsL s (least t)) (fun p _ => row_nn _ hl.pos c p)
  have : ((rowsL s (least t)).length : Int) * 2 ^ 200 ≤ 2520 * 2 ^ 200 := Int.mul_le_mul_of_nonneg_right (by omega) (by decide)
  unfold cntN
  exact ⟨b, by omega⟩
theorem many_exc {t : List Int} (h : Good t) (hb : BdT t) (c : Int) {s : Int} (hs : s.natAbs < 2 ^ 255) {m : Int} (hm : m < cntN s t c) : m_crossing_places none [pl t, .int c, .int s, .int m] = .exc ⟨116, [.int (cntN s t c)]⟩ none := by
  have e1 := ccount_ok h hb c hs
  have e1 : m_crossing_count none [pl t, .int c, .int s] = .ok (.imm (.int (cntN s t c))) none := e1
  generalize cntN s t c = C at *
  have g : gGt (.int C) (.int m) = some (.imm (.bl true)) := by simp [gGt, hm]
  simp [m_crossing_places, mir, ini, ioS, ioN, outR, ioOut, g_crossing_places, e1, g]
def askR (s : Int) (t : List Int) (c m : Int) : TS.R := if cntN s t c ≤ m then .nst false [.inl (.str "told"), .inr (.l (iL (srt (carL s t c))))] else .own (.l [.str "many", .str (numX (cntN s t c)), .bl true])
structure PT (t : List Int) : Prop where
  good : Good t
  bd : ∀ x ∈ t, x.natAbs < 2 ^ 200
theorem PT.B {t : List Int} (p : PT t) : BdT t := fun x hx => Nat.lt_of_lt_of_le (p.bd x hx) (Nat.pow_le_pow_right (by decide) (by decide))
theorem up_any {t : List Int} (p : PT t) (c : Int) {m : Int} (h0 : 0 ≤ m) (h1 : m ≤ 1000000) : m_carried_up none [pl t, .int c, .int m] = if cntN 1 t c ≤ m then .ok (.own (.l (iL (srt (carL 1 t c))))) none else .exc ⟨116, [.int (cntN 1 t c)]⟩ none := by
  split
  · rename_i hm
    have q := carL_len 1 p.good c
    have q : ((carL 1 t c).length : Int) = cntN 1 t c := q
    exact carried_up_ok p.good p.B c h0 (show upN t c ≤ m from hm) (by omega)
  · rename_i hm
    have e := many_exc p.good p.B c (s := 1) (by decide) (m := m) (by omega)
    have r2 := require2_ok h0
    simp [m_carried_up, mir, ini, ioS, ioN, outR, ioOut, g_carried_up, require1_ok, r2, e]
theorem dn_any {t : List Int} (p : PT t) (c : Int) {m : Int} (h0 : 0 ≤ m) (h1 : m ≤ 1000000) : m_carried_down none [pl t, .int c, .int m] = if cntN (-1) t c ≤ m then .ok (.own (.l (iL (srt (carL (-1) t c))))) none else .exc ⟨116, [.int (cntN (-1) t c)]⟩ none := by
  split
  · rename_i hm
    have q := carL_len (-1) p.good c
    have q : ((carL (-1) t c).length : Int) = cntN (-1) t c := q
    exact carried_down_ok p.good p.B c h0 (show dnN t c ≤ m from hm) (by omega)
  · rename_i hm
    have e := many_exc p.good p.B c (s := -1) (by decide) (m := m) (by omega)
    have r2 := require2_ok h0
    simp [m_carried_down, mir, ini, ioS, ioN, outR, ioOut, g_carried_down, require1_ok, r2, e]
theorem lam_any {ixs : List Nat} {fb : FE} {δ δ2 : Sl} {t : List Int} (p : PT t) {s c m : Int} (hz : frzS ixs δ = δ)
    (hb : fb (immP δ) = if cntN s t c ≤ m then .ok (.own (.l (iL (srt (carL s t c))))) δ2 else .exc ⟨116, [.int (cntN s t c)]⟩ δ2) : fLamO ixs m__law_told fb δ = .ok (askR s t c m) δ := by
  unfold askR
  split at hb
  · rename_i hm
    rw [if_pos hm]
    exact lam_list hz hb
  · rename_i hm
    rw [if_neg hm]
    exact lam_many (cnt_bd p.good p.bd s c).2 hz hb
theorem outE_if {b : Prop} [Decidable b] (r : TS.R) (x : XD) (δ : Sl) : outE (if b then FR.ok r none else FR.exc x none) δ = if b then Res.ok r δ else Res.exc x δ := by split <;> rfl
theorem asked_ok {t : List Int} (p : PT t) (c : Int) {s : Int} (hs : sgn2 s) {m : Int} (h0 : 0 ≤ m) (h1 : m ≤ 1000000) : m__law_asked none [pl t, .int c, .int s, .int m] = .ok (askR s t c m) none := by
  rcases hs with rfl | rfl
  · have e := up_any p c h0 h1
    have l : fLamO [0, 1, 3] m__law_told (fOwn m_carried_up (aCons (vI 0) (aCons (vI 1) (aCons (vI 3) aNil)))) [some (.imm (pl t)), some (.imm (.int c)), some (.imm (.int 1)), some (.imm (.int m))] = .ok (askR 1 t c m) [some (.imm (pl t)), some (.imm (.int c)), some (.imm (.int 1)), some (.imm (.int m))] :=
      lam_any p (δ2 := [some (.imm (.obj 0 (planD (least t)))), some (.imm (.int c)), some (.imm (.int 1)), some (.imm (.int m))]) (by simp [frzS, frz1]) (by
        have e : m_carried_up none [.obj 0 (planD (least t)), .int c, .int m] = _ := e
        generalize iL (srt (carL 1 t c)) = XS at *
        generalize cntN 1 t c = C at *
        show fOwn _ _ (immP [some (.imm (.obj 0 (planD (least t)))), _, _, _]) = _
        generalize planD (least t) = PT0 at *
        simp [immP, e, outE_if])
    generalize askR 1 t c m = AR at *
    have l : fLamO [0, 1, 3] m__law_told (fOwn m_carried_up (aCons (vI 0) (aCons (vI 1) (aCons (vI 3) aNil)))) [some (.imm (.obj 0 (planD (least t)))), some (.imm (.int c)), some (.imm (.int 1)), some (.imm (.int m))] = .ok AR [some (.imm (.obj 0 (planD (least t)))), some (.imm (.int c)), some (.imm (.int 1)), some (.imm (.int m))] := l
    show m__law_asked none [.obj 0 (planD (least t)), _, _, _] = _
    generalize planD (least t) = PT0 at *
    (unfold m__law_asked g__law_asked; unfold mir; rw [if_pos (by simp [ioN])]; simp only [ini, ioS, ioN, List.replicate, List.map_cons, List.map_nil, List.length_cons, List.length_nil, List.nil_append, List.cons_append, Nat.zero_add, Nat.reduceAdd, Nat.reduceSub])
    simp [l, outR, ioOut]
  · have e := dn_any p c h0 h1
    have e : m_fk_carried_down_0_most_cut_plan none [.int m, .int c, pl t] = _ := e
    have l : fLamO [0, 1, 3] m__law_told (fOwnK0 m_fk_carried_down_0_most_cut_plan 3 (aCons (vI 3) (aCons (vI 1) (aCons (vI 0) aNil)))) [some (.imm (pl t)), some (.imm (.int c)), some (.imm (.int (-1))), some (.imm (.int m))] = .ok (askR (-1) t c m) [some (.imm (pl t)), some (.imm (.int c)), some (.imm (.int (-1))), some (.imm (.int m))] :=
      lam_any p (δ2 := [some (.imm (.obj 0 (planD (least t)))), some (.imm (.int c)), some (.imm (.int (-1))), some (.imm (.int m))]) (by simp [frzS, frz1]) (by
        have e : m_fk_carried_down_0_most_cut_plan none [.int m, .int c, .obj 0 (planD (least t))] = _ := e
        generalize iL (srt (carL (-1) t c)) = XS at *
        generalize cntN (-1) t c = C at *
        show fOwnK0 _ _ _ (immP [some (.imm (.obj 0 (planD (least t)))), _, _, _]) = _
        generalize planD (least t) = PT0 at *
        simp [immP, e, outE_if])
    generalize askR (-1) t c m = AR at *
    have l : fLamO [0, 1, 3] m__law_told (fOwnK0 m_fk_carried_down_0_most_cut_plan 3 (aCons (vI 3) (aCons (vI 1) (aCons (vI 0) aNil)))) [some (.imm (.obj 0 (planD (least t)))), some (.imm (.int c)), some (.imm (.int (-1))), some (.imm (.int m))] = .ok AR [some (.imm (.obj 0 (planD (least t)))), some (.imm (.int c)), some (.imm (.int (-1))), some (.imm (.int m))] := l
    show m__law_asked none [.obj 0 (planD (least t)), _, _, _] = _
    generalize planD (least t) = PT0 at *
    (unfold m__law_asked g__law_asked; unfold mir; rw [if_pos (by simp [ioN])]; simp only [ini, ioS, ioN, List.replicate, List.map_cons, List.map_nil, List.length_cons, List.length_nil, List.nil_append, List.cons_append, Nat.zero_add, Nat.reduceAdd, Nat.reduceSub])
    simp [l, outR, ioOut]
theorem default_ok {t : List Int} (p : PT t) (c : Int) {s : Int} (hs : sgn2 s) : m__law_default none [pl t, .int c, .int s] = .ok (askR s t c 100) none := by
  have l : fLamO [0, 1, 2] m__law_told (fIfE (fTst (fBin gEq (vI 2) (kD (.int 1)))) (fOwn m_carried_up_d2 (aCons (vI 0) (aCons (vI 1) aNil))) (fOwn m_carried_down_d2 (aCons (vI 0) (aCons (vI 1) aNil)))) [some (.imm (pl t)), some (.imm (.int c)), some (.imm (.int s))] = .ok (askR s t c 100) [some (.imm (pl t)), some (.imm (.int c)), some (.imm (.int s))] :=
    lam_any p (δ2 := [some (.imm (.obj 0 (planD (least t)))), some (.imm (.int c)), some (.imm (.int s))]) (by simp [frzS, frz1]) (by
      rcases hs with rfl | rfl
      · have e : m_carried_up_d2 none [.obj 0 (planD (least t)), .int c] = _ := up_any p c (m := 100) (by decide) (by decide)
        generalize iL (srt (carL 1 t c)) = XS at *
        generalize cntN 1 t c = C at *
        show fIfE _ _ _ (immP [some (.imm (.obj 0 (planD (least t)))), _, _]) = _
        generalize planD (least t) = PT0 at *
        simp [immP, e, outE_if]
      · have e : m_carried_down_d2 none [.obj 0 (planD (least t)), .int c] = _ := dn_any p c (m := 100) (by decide) (by decide)
        generalize iL (srt (carL (-1) t c)) = XS at *
        generalize cntN (-1) t c = C at *
        show fIfE _ _ _ (immP [some (.imm (.obj 0 (planD (least t)))), _, _]) = _
        generalize planD (least t) = PT0 at *
        simp [immP, e, outE_if])
  generalize askR s t c 100 = AR at *
  have l : fLamO [0, 1, 2] m__law_told _ [some (.imm (.obj 0 (planD (least t)))), some (.imm (.int c)), some (.imm (.int s))] = .ok AR [some (.imm (.obj 0 (planD (least t)))), some (.imm (.int c)), some (.imm (.int s))] := l
  show m__law_default none [.obj 0 (planD (least t)), _, _] = _
  generalize planD (least t) = PT0 at *
  (unfold m__law_default g__law_default; unfold mir; rw [if_pos (by simp [ioN])]; simp only [ini, ioS, ioN, List.replicate, List.map_cons, List.map_nil, List.length_cons, List.length_nil, List.nil_append, List.cons_append, Nat.zero_add, Nat.reduceAdd, Nat.reduceSub])
  simp [l, outR, ioOut]
end
end K32

namespace K32
open PySem L2 TS
noncomputable section
-- needs: k32b
theorem sorted_ext : ∀ {a b : List Int}, a.Pairwise (· < ·) → b.Pairwise (· < ·) → (∀ x, x ∈ a ↔ x ∈ b) → a = b
  | [], [], _, _, _ => rfl
  | [], y :: b, _, _, h => by have := (h y).mpr (by simp); simp at this
  | x :: a, [], _, _, h => by have := (h x).mp (by simp); simp at this
  | x :: a, y :: b, ha, hb, h => by
    rw [List.pairwise_cons] at ha hb
    have e : x = y := by
      have h1 := (h x).mp (by simp)
      have h2 := (h y).mpr (by simp)
      rcases List.mem_cons.mp h1 with e | h1
      · exact e
      · rcases List.mem_cons.mp h2 with e | h2
        · exact e.symm
        · have := hb.1 x h1
          have := ha.1 y h2
          omega
    subst e
    congr 1
    refine sorted_ext ha.2 hb.2 fun z => ⟨fun hz => ?_, fun hz => ?_⟩
    · have := ha.1 z hz
      rcases List.mem_cons.mp ((h z).mp (by simp [hz])) with e | hz
      · omega
      · exact hz
    · have := hb.1 z hz
      rcases List.mem_cons.mp ((h z).mpr (by simp [hz])) with e | hz
      · omega
      · exact hz
theorem carS_lt {t : List Int} (h : Good t) (s c : Int) : (srt (carL s t c)).Pairwise (· < ·) := by
  have nd : (srt (carL s t c)).Nodup := (srt_perm _).nodup_iff.mpr (carL_nodup h c)
  have le := srt_le (carL s t c)
  exact (le.and nd).imp fun ⟨a, b⟩ => by omega
theorem carS_mem {t : List Int} (h : Good t) {s : Int} (hs : sgn2 s) (c x : Int) : x ∈ srt (carL s t c) ↔ (if s = 1 then x < c ∧ c ≤ mv t x else c ≤ x ∧ mv t x < c) := by
  rw [(srt_perm (carL s t c)).mem_iff]
  rcases hs with rfl | rfl
  · rw [if_pos rfl]; exact carUp_mem h c x
  · rw [if_neg (by decide)]; exact carDn_mem h c x
theorem carS_len {t : List Int} (h : Good t) (s c : Int) : ((srt (carL s t c)).length : Int) = cntN s t c := by
  rw [(srt_perm (carL s t c)).length_eq]
  exact carL_len s h c
theorem srt_id {xs : List Int} (h : xs.Pairwise (· < ·)) : srt xs = xs := by
  have nd : xs.Nodup := h.imp fun a => by omega
  have nd2 : (srt xs).Nodup := (srt_perm _).nodup_iff.mpr nd
  exact sorted_ext ((srt_le xs).and nd2 |>.imp fun ⟨a, b⟩ => by omega) h fun x => (srt_perm xs).mem_iff
theorem carS_shift {t : List Int} (h : Good t) {s : Int} (hs : sgn2 s) (c : Int) : srt (carL s t (c + ((least t).length : Int))) = (srt (carL s t c)).map fun x : Int => x + ((least t).length : Int) := by
  have per : ∀ x, mv t (x + (least t).length) = mv t x + (least t).length := fun x => by
    have := mv_perk (least t) x 1
    rw [mv_least h] at this
    simpa using this
  refine sorted_ext (carS_lt h s _) ?_ fun x => ?_
  · rw [List.pairwise_map]
    exact (carS_lt h s c).imp fun a => by omega
  · rw [carS_mem h hs, List.mem_map]
    constructor
    · intro hx
      refine ⟨x - (least t).length, (carS_mem h hs c _).mpr ?_, by omega⟩
      have p := per (x - (least t).length)
      rw [show x - ((least t).length : Int) + (least t).length = x by omega] at p
      split at hx
      · rename_i e; rw [if_pos e]; omega
      · rename_i e; rw [if_neg e]; omega
    · rintro ⟨y, hy, rfl⟩
      have hy := (carS_mem h hs c y).mp hy
      have p := per y
      split at hy
      · rename_i e; rw [if_pos e]; omega
      · rename_i e; rw [if_neg e]; omega
theorem judge_loop {t : List Int} (h : Good t) {s : Int} (hs : sgn2 s) (c : Int) {s3 s4 : Option TS.R} : ∀ (xs : List Int) (s5 : Option TS.R), (∀ x ∈ xs, if s = 1 then x < c ∧ c ≤ mv t x else c ≤ x ∧ mv t x < c) →
    ∃ s5', forL (tName 5) g__law_list_right_3B (iL xs) [some (.imm (.lst (iL t))), some (.imm (.int c)), some (.imm (.int s)), s3, s4, s5] = .nx [some (.imm (.lst (iL t))), some (.imm (.int c)), some (.imm (.int s)), s3, s4, s5']
  | [], s5, _ => ⟨s5, by simp [iL, forL]⟩
  | x :: xs, s5, hx => by
    obtain ⟨s5', e⟩ := judge_loop h hs c (s3 := s3) (s4 := s4) xs (some (.imm (.int x))) fun y hy => hx y (by simp [hy])
    refine ⟨s5', ?_⟩
    have la := law_at_ok h.pos x
    have h0 := hx x (by simp)
    have i1 : is_int (.inl "int") = some true := by decide +kernel
    have i2 : is_bool (.inl "int") = some false := by decide +kernel
    rw [iL_cons, ← e]
    have nb : ∀ b : Bool, gNe (.bl b) (.bl b) = some (.imm (.bl false)) := fun b => by cases b <;> rfl
    have B : g__law_list_right_3B [some (.imm (.lst (iL t))), some (.imm (.int c)), some (.imm (.int s)), s3, s4, some (.imm (.int x))] = .nx [some (.imm (.lst (iL t))), some (.imm (.int c)), some (.imm (.int s)), s3, s4, some (.imm (.int x))] := by
      generalize mv t x = y at *
      generalize iL t = T at *
      rcases hs with rfl | rfl
      · rw [if_pos rfl] at h0
        simp [i1, i2, la, h0.1, h0.2, nb]
      · rw [if_neg (by decide)] at h0
        have z1 : ¬ x < c := by omega
        have z2 : ¬ c ≤ y := by omega
        simp [i1, i2, la, z1, z2, nb]
    simp only [forL, ap_tNameI, SR.bind_nx, List.set_cons_succ, List.set_cons_zero]
    rw [B]
theorem list_right_ok {t : List Int} (p : PT t) {s : Int} (hs : sgn2 s) (c : Int) (hn : cntN s t c ≤ 4000) : m__law_list_right none [.lst (iL t), .int c, .int s, .lst (iL (srt (carL s t c))), .int (cntN s t c)] = .ok (.imm (.bl true)) none := by
  have hl := carS_len p.good s c
  have hlt := carS_lt p.good s c
  have hm := fun x (hx : x ∈ srt (carL s t c)) => (carS_mem p.good hs c x).mp hx
  generalize srt (carL s t c) = xs at *
  rw [← hl] at hn ⊢
  have nd : xs.Nodup := hlt.imp fun a => by omega
  obtain ⟨s5, e⟩ := judge_loop p.good hs c (s3 := some (.imm (.lst (iL xs)))) (s4 := some (.imm (.int (xs.length : Int)))) xs none hm
  have il : is_list (.inl "list") = some true := by decide +kernel
  have ln : gLen [.lst (iL xs)] = some (.imm (.int (xs.length : Int))) := by rw [gLen_l, iL_len]
  have gs := gSorted_l xs
  rw [srt_id hlt] at gs
  have ne : gNe (.lst (iL xs)) (.lst (iL xs)) = some (.imm (.bl false)) := by rw [gNe_l]; simp
  have di : intsD (iL xs) = some xs := intsD_ints xs
  have dn := dups_nodup nd
  have h4 : xs.length ≤ 4000 := by omega
  have tl : tagD (.lst (iL xs)) = some (.inl "list") := rfl
  have it : itSeq (vI 3) [some (.imm (.lst (iL t))), some (.imm (.int c)), some (.imm (.int s)), some (.imm (.lst (iL xs))), some (.imm (.int (xs.length : Int))), none] = .ok (iL xs) [some (.imm (.lst (iL t))), some (.imm (.int c)), some (.imm (.int s)), some (.imm (.lst (iL xs))), some (.imm (.int (xs.length : Int))), none] := by
    generalize iL xs = X at *
    simp
  have W1 : g__law_list_right_1 [some (.imm (.lst (iL t))), some (.imm (.int c)), some (.imm (.int s)), some (.imm (.lst (iL xs))), some (.imm (.int (xs.length : Int))), none] = .nx [some (.imm (.lst (iL t))), some (.imm (.int c)), some (.imm (.int s)), some (.imm (.lst (iL xs))), some (.imm (.int (xs.length : Int))), none] := by
    generalize iL xs = X at *
    generalize iL t = T at *
    simp [tl, il, ln]
  have W2 : g__law_list_right_2 [some (.imm (.lst (iL t))), some (.imm (.int c)), some (.imm (.int s)), some (.imm (.lst (iL xs))), some (.imm (.int (xs.length : Int))), none] = .nx [some (.imm (.lst (iL t))), some (.imm (.int c)), some (.imm (.int s)), some (.imm (.lst (iL xs))), some (.imm (.int (xs.length : Int))), none] := by
    generalize iL xs = X at *
    generalize iL t = T at *
    simp [gs, ne, di, dn, h4, OB.toD]
  generalize iL xs = X at *
  generalize iL t = T at *
  (unfold m__law_list_right g__law_list_right; unfold mir; rw [if_pos (by simp [ioN])]; simp only [ini, ioS, ioN, List.replicate, List.map_cons, List.map_nil, List.length_cons, List.length_nil, List.nil_append, List.cons_append, Nat.zero_add, Nat.reduceAdd, Nat.reduceSub])
  rw [ap_sSeq, W1, SR.bind_nx]
  rw [ap_sSeq, W2, SR.bind_nx]
  rw [ap_sSeq, show g__law_list_right_3 _ = _ from for_st it e, SR.bind_nx]
  simp [outR, ioOut]
theorem farL {t : List Int} (h0 : 0 < t.length) : ∃ f : Int, maxL (t.map fun x => if x < 0 then -x else x) = f ∧ 0 ≤ f ∧ (∃ x ∈ t, f = if x < 0 then -x else x) ∧ ∀ y, -f ≤ act t y ∧ act t y ≤ f := by
  obtain ⟨m1, m2⟩ := maxL_ok (ns := t.map fun x => if x < 0 then -x else x) (by simpa using h0)
  obtain ⟨x, hx, e⟩ := List.mem_map.mp m1
  refine ⟨_, rfl, ?_, ⟨x, hx, e.symm⟩, fun y => ?_⟩
  · rw [← e]; split <;> omega
  · have := m2 (if act t y < 0 then -act t y else act t y) (List.mem_map.mpr ⟨act t y, act_mem h0 y, rfl⟩)
    split at this <;> omega
theorem rng_lt (a : Int) (k : Nat) : ((List.range k).map fun i : Nat => a + (i : Int)).Pairwise (· < ·) := by
  rw [List.pairwise_map]
  exact List.pairwise_lt_range.imp fun h => by omega
theorem rng_mem {a : Int} {k : Nat} {x : Int} : x ∈ ((List.range k).map fun i : Nat => a + (i : Int)) ↔ a ≤ x ∧ x < a + k := by
  rw [List.mem_map]
  constructor
  · rintro ⟨i, hi, rfl⟩
    have := List.mem_range.mp hi
    omega
  · rintro ⟨h1, h2⟩
    exact ⟨(x - a).toNat, List.mem_range.mpr (by omega), by omega⟩
theorem law_found_ok {t : List Int} (h : Good t) {s : Int} (hs : sgn2 s) (c : Int) (hw : ∀ x ∈ t, x.natAbs ≤ 20000) : m__law_found none [.lst (iL t), .int c, .int s] = .ok (.own (.l (iL (srt (carL s t c))))) none := by
  have hp := h.pos
  have hl := h.len
  obtain ⟨f, ef, f0, ⟨x0, hx0, fx⟩, f2⟩ := farL hp
  have fb : f ≤ 20000 := by
    have := hw x0 hx0
    rw [fx]; split <;> omega
  have q := lc_ints (i := 5) (fi := itSeq (vI 0)) (fe := frz (fCal gAbs (aOne (vP 5)))) (xs := t) (fun x => if x < 0 then -x else x) (δ := [some (.imm (.lst (iL t))), some (.imm (.int c)), some (.imm (.int s)), none, none, none]) (δ1 := [some (.imm (.lst (iL t))), some (.imm (.int c)), some (.imm (.int s)), none, none, none]) (by simp) rfl (by omega) (fun x _ => by simp [gAbs])
  have gm := gMax_l (xs := t.map fun x => if x < 0 then -x else x) (by simpa using hp)
  rw [ef] at gm
  have M : m__law_found none [.lst (iL t), .int c, .int s] = outR none (g__law_found [some (.imm (.lst (iL t))), some (.imm (.int c)), some (.imm (.int s)), none, none, none]) := rfl
  have S1 : g__law_found_1 [some (.imm (.lst (iL t))), some (.imm (.int c)), some (.imm (.int s)), none, none, none] = .nx [some (.imm (.lst (iL t))), some (.imm (.int c)), some (.imm (.int s)), some (.imm (.int f)), none, none] := by
    generalize hZ : (t.map fun x => if x < 0 then -x else x) = Z at *
    simp [q, gm]
  rw [M, show g__law_found = sSeq g__law_found_1 (sSeq g__law_found_2 g__law_found_3) from rfl, ap_sSeq, S1, SR.bind_nx]
  rcases hs with rfl | rfl
  · have ex : ((List.range (c - (c - f)).toNat).map fun i : Nat => c - f + (i : Int)).filter (fun x => decide (mv t x ≥ c)) = srt (carL 1 t c) := by
      refine sorted_ext ((rng_lt _ _).filter _) (carS_lt h 1 c) fun x => ?_
      rw [List.mem_filter, rng_mem, carS_mem h (.inl rfl), if_pos rfl, decide_eq_true_eq]
      have := f2 x
      unfold mv
      omega
    have q2 := lc_gen (xs := (List.range (c - (c - f)).toNat).map fun i : Nat => c - f + (i : Int)) (inj := D.int) (setT := stName 4) (vs := [4]) (fi := itRg2W (frz (fBin gSub (vI 1) (vP 3))) (vI 1)) (ft := fTst (fBin gGe (frz (fOwn m__law_at (aCons (vI 0) (aCons (vI 4) aNil)))) (vP 1))) (fe := vI 4)
      (δ := [some (.imm (.lst (iL t))), some (.imm (.int c)), some (.imm (.int 1)), some (.imm (.int f)), none, none]) (δ1 := [some (.imm (.lst (iL t))), some (.imm (.int c)), some (.imm (.int 1)), some (.imm (.int f)), none, none]) (fun x => decide (mv t x ≥ c)) D.int [some (.imm (.lst (iL t))), some (.imm (.int c)), some (.imm (.int 1)), some (.imm (.int f)), none, none]
      (itRg2W_ok (δ1 := [some (.imm (.lst (iL t))), some (.imm (.int c)), some (.imm (.int 1)), some (.imm (.int f)), none, none]) (a := c - f) (b := c) (by simp) (by simp)) rfl rfl rfl (by rw [List.length_map, List.length_range]; omega) (fun x hx => by
        refine ⟨[some (.imm (.lst (iL t))), some (.imm (.int c)), some (.imm (.int 1)), some (.imm (.int f)), some (.imm (.int x)), none], rfl, ?_, fun _ => by simp, rfl⟩
        have a1 := law_at_ok hp x
        generalize iL t = T at *
        simp [a1])
    rw [ex] at q2
    have q2 : fLc (stName 4) [4] (itRg2W (frz (fBin gSub (vI 1) (vP 3))) (vI 1)) (fTst (fBin gGe (frz (fOwn m__law_at (aCons (vI 0) (aCons (vI 4) aNil)))) (vP 1))) (vI 4) [some (.imm (.lst (iL t))), some (.imm (.int c)), some (.imm (.int 1)), some (.imm (.int f)), none, none] = .ok (.own (.l (iL (srt (carL 1 t c))))) _ := q2
    generalize iL (srt (carL 1 t c)) = XS at *
    generalize iL t = T at *
    simp [q2, outR, ioOut]
  · have ex : ((List.range (c + f - c).toNat).map fun i : Nat => c + (i : Int)).filter (fun x => decide (mv t x < c)) = srt (carL (-1) t c) := by
      refine sorted_ext ((rng_lt _ _).filter _) (carS_lt h (-1) c) fun x => ?_
      rw [List.mem_filter, rng_mem, carS_mem h (.inr rfl), if_neg (by decide), decide_eq_true_eq]
      have := f2 x
      unfold mv
      omega
    have q2 := lc_gen (xs := (List.range (c + f - c).toNat).map fun i : Nat => c + (i : Int)) (inj := D.int) (setT := stName 4) (vs := [4]) (fi := itRg2W (vI 1) (frz (fBin gAdd (vI 1) (vP 3)))) (ft := fTst (fBin gLt (frz (fOwn m__law_at (aCons (vI 0) (aCons (vI 4) aNil)))) (vP 1))) (fe := vI 4)
      (δ := [some (.imm (.lst (iL t))), some (.imm (.int c)), some (.imm (.int (-1))), some (.imm (.int f)), none, none]) (δ1 := [some (.imm (.lst (iL t))), some (.imm (.int c)), some (.imm (.int (-1))), some (.imm (.int f)), none, none]) (fun x => decide (mv t x < c)) D.int [some (.imm (.lst (iL t))), some (.imm (.int c)), some (.imm (.int (-1))), some (.imm (.int f)), none, none]
      (itRg2W_ok (δ1 := [some (.imm (.lst (iL t))), some (.imm (.int c)), some (.imm (.int (-1))), some (.imm (.int f)), none, none]) (a := c) (b := c + f) (by simp) (by simp)) rfl rfl rfl (by rw [List.length_map, List.length_range]; omega) (fun x hx => by
        refine ⟨[some (.imm (.lst (iL t))), some (.imm (.int c)), some (.imm (.int (-1))), some (.imm (.int f)), some (.imm (.int x)), none], rfl, ?_, fun _ => by simp, rfl⟩
        have a1 := law_at_ok hp x
        generalize iL t = T at *
        simp [a1])
    rw [ex] at q2
    have q2 : fLc (stName 4) [4] (itRg2W (vI 1) (frz (fBin gAdd (vI 1) (vP 3)))) (fTst (fBin gLt (frz (fOwn m__law_at (aCons (vI 0) (aCons (vI 4) aNil)))) (vP 1))) (vI 4) [some (.imm (.lst (iL t))), some (.imm (.int c)), some (.imm (.int (-1))), some (.imm (.int f)), none, none] = .ok (.own (.l (iL (srt (carL (-1) t c))))) _ := q2
    generalize iL (srt (carL (-1) t c)) = XS at *
    generalize iL t = T at *
    simp [q2, outR, ioOut]
end
end K32

namespace K32
open PySem L2 TS
noncomputable section
-- needs: k32c
theorem gE_many {s : Str} (hs : PyData.strOk s = true) : gEq (.lst [.str "many", .str s, .bl true]) (.lst [.str "many", .str s, .bl true]) = some (.imm (.bl true)) ∧ gNe (.lst [.str "many", .str s, .bl true]) (.lst [.str "many", .str s, .bl true]) = some (.imm (.bl false)) := by
  have tp : toP (.lst [.str "many", .str s, .bl true]) = some (.list [.str "many", .str s, .bool true]) := rfl
  have m : PyData.strOk "many" = true := by decide +kernel
  have sh : SeqAt.shaped (.list [.str "many", .str s, .bool true]) = true := by
    simp [SeqAt.shaped, PyData.canLay0, PyData.canLayAll0, PyData.depth, PyData.depthAll, hs, m]
  exact ⟨gEq_self tp sh, gNe_self tp sh⟩
theorem gE_told (xs : List Int) : gEq (.lst [.str "told", .lst (iL xs)]) (.lst [.str "told", .lst (iL xs)]) = some (.imm (.bl true)) ∧ gNe (.lst [.str "told", .lst (iL xs)]) (.lst [.str "told", .lst (iL xs)]) = some (.imm (.bl false)) := by
  have tp : toP (.lst [.str "told", .lst (iL xs)]) = some (.list [.str "told", .list (xs.map PyData.int)]) := by
    simp [toP, toPs, toPs_ints]
  have m : PyData.strOk "told" = true := by decide +kernel
  have sh : SeqAt.shaped (.list [.str "told", .list (xs.map PyData.int)]) = true := by
    have d := depth_ints xs
    have c := canLay_ints xs
    unfold SeqAt.shaped
    rw [Bool.and_eq_true]
    refine ⟨by simp [PyData.canLay0, PyData.canLayAll0, c, m], decide_eq_true ?_⟩
    simp only [PyData.depth, PyData.depthAll]
    omega
  exact ⟨gEq_self tp sh, gNe_self tp sh⟩
theorem askR_in {s : Int} {t : List Int} {c m : Int} (h : cntN s t c ≤ m) : askR s t c m = .nst false [.inl (.str "told"), .inr (.l (iL (srt (carL s t c))))] := if_pos h
theorem askR_out {s : Int} {t : List Int} {c m : Int} (h : ¬ cntN s t c ≤ m) : askR s t c m = .own (.l [.str "many", .str (numX (cntN s t c)), .bl true]) := if_neg h
theorem cnt_shift {t : List Int} (h : Good t) {s : Int} (hs : sgn2 s) (c : Int) : cntN s t (c + ((least t).length : Int)) = cntN s t c := by
  rw [← carS_len h s c, ← carS_len h s (c + ((least t).length : Int)), carS_shift h hs c, List.length_map]
abbrev cutSeq : FS := sSeq g__law_cut_right_5 (sHold g__law_cut_right_6 8 (sSeq g__law_cut_right_7 (sSeq g__law_cut_right_8 (sSeq g__law_cut_right_9 (sSeq g__law_cut_right_10 (sSeq g__law_cut_right_11 (sSeq g__law_cut_right_12 (sMutN 8 (kD (.int 1)) mAppend (aCons (kD .non) aNil) (sSeq g__law_cut_right_14 (sSeq g__law_cut_right_15 (sSeq g__law_cut_right_16 sNil)))))))))))
theorem cut_few {o : OB} (po : Pot o) {t : List Int} (p : PT t) (c : Int) {s : Int} (hs : sgn2 s) (hc : cntN s t c ≤ 300) (r7 : Int) {s6 : TS.R} (h6 : s6 = .own (.l [.str "many", .str (numX (cntN s t c)), .bl true]) ∨ s6 = .imm (.lst [.str "many", .str (numX (cntN s t c)), .bl true])) :
    ∃ o', outR (some o) (cutSeq [some (.brw o), some (.imm (pl t)), some (.imm (.lst (iL t))), some (.imm (.int c)), some (.imm (.int s)), some (.imm (.int (cntN s t c))), some s6, some (.imm (.int r7)), none, none, none, none, none, none, none]) = .ok (.imm (.bl true)) (some o') ∧ Pot o' := by
  have hp := p.good.pos
  have hl := p.good.len
  have cb := cnt_bd p.good p.bd s c
  have lst := list_right_ok p hs c (by omega)
  have asC := asked_ok p c hs (m := cntN s t c) cb.1 (by omega)
  have asT := asked_ok p c hs (m := 10000) (by decide) (by decide)
  have dfl := default_ok p c hs
  have xl := carS_len p.good s c
  obtain ⟨r, o2, e2, p2, r0, r1⟩ := draw_ok po (m := 40) (by decide) (by decide)
  have asF := asked_ok p (c + ((least t).length : Int)) hs (m := cntN s t c + r) (by omega) (by omega)
  rw [askR_in (by omega)] at asC asT
  rw [askR_in (by rw [cnt_shift p.good hs c]; omega), carS_shift p.good hs c] at asF
  have q := lc_ints (i := 13) (fi := itSeq (vI 2)) (fe := frz (fCal gAbs (aOne (vP 13)))) (xs := t) (fun x => if x < 0 then -x else x) (δ := [some (.brw o), some (.imm (.obj 0 (planD (least t)))), some (.imm (.lst (iL t))), some (.imm (.int c)), some (.imm (.int s)), some (.imm (.int (cntN s t c))), some s6, some (.imm (.int r7)), some (.nst false [.inl (.str "told"), .inr (.l (iL (srt (carL s t c))))]), none, none, none, none, none, none]) (δ1 := [some (.brw o), some (.imm (.obj 0 (planD (least t)))), some (.imm (.lst (iL t))), some (.imm (.int c)), some (.imm (.int s)), some (.imm (.int (cntN s t c))), some s6, some (.imm (.int r7)), some (.nst false [.inl (.str "told"), .inr (.l (iL (srt (carL s t c))))]), none, none, none, none, none, none]) (by simp) rfl (by omega) (fun x _ => by simp [gAbs])
  obtain ⟨f, ef, f0, _, f2⟩ := farL hp
  have gm := gMax_l (xs := t.map fun x => if x < 0 then -x else x) (by simpa using hp)
  rw [ef] at gm
  have fnd : f < 2000 → m__law_found none [.lst (iL t), .int c, .int s] = .ok (.own (.l (iL (srt (carL s t c))))) none := fun hf => law_found_ok p.good hs c fun x hx => by
    have m2 := (maxL_ok (ns := t.map fun x => if x < 0 then -x else x) (by simpa using hp)).2 _ (List.mem_map.mpr ⟨x, hx, rfl⟩)
    rw [ef] at m2
    split at m2 <;> omega
  have pp := period_prop t
  have pp : m_Plan_period none [.obj 0 (planD (least t))] = _ := pp
  have fl : (iL (srt (carL s t c))).all flatD = true := flat_iL _
  have xlen : (iL (srt (carL s t c))).length < 16777216 := by rw [iL_len]; omega
  have lc2 : ∀ u0 u6 : Option TS.R, fLc (stName 14) [14] (itSeq (frz (fBin gIx (vI 8) (kD (.int 1))))) tTrue (frz (fBin gAdd (vI 14) (fProp ptab_period (vI 1)))) [u0, some (.imm (.obj 0 (planD (least t)))), some (.imm (.lst (iL t))), some (.imm (.int c)), some (.imm (.int s)), some (.imm (.int (cntN s t c))), u6, some (.imm (.int r7)), some (.imm (.lst [.str "told", .lst (iL (srt (carL s t c)))])), some (.imm (.int f)), some (.imm (.lst [.str "told", .lst (iL ((srt (carL s t c)).map fun x : Int => x + ((least t).length : Int)))])), none, none, none, none] = .ok (.own (.l (iL ((srt (carL s t c)).map fun x : Int => x + ((least t).length : Int))))) [u0, some (.imm (.obj 0 (planD (least t)))), some (.imm (.lst (iL t))), some (.imm (.int c)), some (.imm (.int s)), some (.imm (.int (cntN s t c))), u6, some (.imm (.int r7)), some (.imm (.lst [.str "told", .lst (iL (srt (carL s t c)))])), some (.imm (.int f)), some (.imm (.lst [.str "told", .lst (iL ((srt (carL s t c)).map fun x : Int => x + ((least t).length : Int)))])), none, none, none, none] := fun u0 u6 => by
    refine lc_ints (i := 14) (fi := itSeq (frz (fBin gIx (vI 8) (kD (.int 1))))) (fe := frz (fBin gAdd (vI 14) (fProp ptab_period (vI 1)))) (xs := srt (carL s t c)) (fun x : Int => x + ((least t).length : Int)) ?_ ?_ ?_ ?_
    · have i1 : ∀ X : List D, gIx (.lst [.str "told", .lst X]) (.int 1) = some (.imm (.lst X)) := fun _ => rfl
      generalize iL (srt (carL s t c)) = XL at *
      generalize iL t = T at *
      generalize planD (least t) = PL at *
      simp [i1]
    · rfl
    · omega
    · intro x _
      generalize (iL (srt (carL s t c))) = XL at *
      generalize iL t = T at *
      generalize planD (least t) = PL at *
      simp [ptab_period, pp]
  have gm1 := gE_many (numX_ok cb.2).2.2
  have rp := (numX_ok cb.2).1
  have gt1 := gE_told (srt (carL s t c))
  have gt2 := gE_told ((srt (carL s t c)).map fun x : Int => x + ((least t).length : Int))
  have gx : gNe (.lst (iL (srt (carL s t c)))) (.lst (iL (srt (carL s t c)))) = some (.imm (.bl false)) := by rw [gNe_l]; simp
  have gtt : gNe (.str "told") (.str "told") = some (.imm (.bl false)) := gNe_self (p := .str "told") rfl (by decide +kernel)
  have i0 : ∀ X : List D, gIx (.lst [.str "told", .lst X]) (.int 0) = some (.imm (.str "told")) := fun _ => rfl
  have i1 : ∀ X : List D, gIx (.lst [.str "told", .lst X]) (.int 1) = some (.imm (.lst X)) := fun _ => rfl
  have asC : m__law_asked none [.obj 0 (planD (least t)), .int c, .int s, .int (cntN s t c)] = _ := asC
  have asT : m__law_asked none [.obj 0 (planD (least t)), .int c, .int s, .int 10000] = _ := asT
  have asF : m__law_asked none [.obj 0 (planD (least t)), .int (c + ((least t).length : Int)), .int s, .int (cntN s t c + r)] = _ := asF
  have dfl : m__law_default none [.obj 0 (planD (least t)), .int c, .int s] = .ok (askR s t c 100) none := dfl
  have dfl : if cntN s t c ≤ 100 then m__law_default none [.obj 0 (planD (least t)), .int c, .int s] = .ok (.nst false [.inl (.str "told"), .inr (.l (iL (srt (carL s t c))))]) none else m__law_default none [.obj 0 (planD (least t)), .int c, .int s] = .ok (.own (.l [.str "many", .str (numX (cntN s t c)), .bl true])) none := by
    split
    · rename_i h; rw [dfl, askR_in h]
    · rename_i h; rw [dfl, askR_out h]
  refine ⟨o2, ?_, p2⟩
  have S8 : g__law_cut_right_8 [some (.brw o), some (.imm (.obj 0 (planD (least t)))), some (.imm (.lst (iL t))), some (.imm (.int c)), some (.imm (.int s)), some (.imm (.int (cntN s t c))), some s6, some (.imm (.int r7)), some (.nst false [.inl (.str "told"), .inr (.l (iL (srt (carL s t c))))]), none, none, none, none, none, none] = .nx [some (.brw o), some (.imm (.obj 0 (planD (least t)))), some (.imm (.lst (iL t))), some (.imm (.int c)), some (.imm (.int s)), some (.imm (.int (cntN s t c))), some s6, some (.imm (.int r7)), some (.nst false [.inl (.str "told"), .inr (.l (iL (srt (carL s t c))))]), some (.imm (.int f)), none, none, none, none, none] := by
    generalize (t.map fun x => if x < 0 then -x else x) = Z at *
    simp [q, gm, OB.toD]
  clear q gm
  change outR (some o) (cutSeq [some (.brw o), some (.imm (.obj 0 (planD (least t)))), some (.imm (.lst (iL t))), some (.imm (.int c)), some (.imm (.int s)), some (.imm (.int (cntN s t c))), some s6, some (.imm (.int r7)), none, none, none, none, none, none, none]) = _
  generalize iL ((srt (carL s t c)).map fun x : Int => x + ((least t).length : Int)) = XF at *
  generalize iL (srt (carL s t c)) = XL at *
  generalize iL t = T at *
  generalize hPL : planD (least t) = PL at *
  generalize cntN s t c = C at *
  generalize numX C = N at *
  generalize ((least t).length : Int) = n at *
  have S5 : g__law_cut_right_5 [some (.brw o), some (.imm (.obj 0 PL)), some (.imm (.lst T)), some (.imm (.int c)), some (.imm (.int s)), some (.imm (.int C)), some s6, some (.imm (.int r7)), none, none, none, none, none, none, none] = .nx [some (.brw o), some (.imm (.obj 0 PL)), some (.imm (.lst T)), some (.imm (.int c)), some (.imm (.int s)), some (.imm (.int C)), some s6, some (.imm (.int r7)), none, none, none, none, none, none, none] := by
    simp [show ¬ (300 : Int) < C by omega]
  have H6 : g__law_cut_right_6 [some (.brw o), some (.imm (.obj 0 PL)), some (.imm (.lst T)), some (.imm (.int c)), some (.imm (.int s)), some (.imm (.int C)), some s6, some (.imm (.int r7)), none, none, none, none, none, none, none] = .ok (.nst false [.inl (.str "told"), .inr (.l XL)]) [some (.brw o), some (.imm (.obj 0 PL)), some (.imm (.lst T)), some (.imm (.int c)), some (.imm (.int s)), some (.imm (.int C)), some s6, some (.imm (.int r7)), none, none, none, none, none, none, none] := by
    simp [asC]
  have S7 : g__law_cut_right_7 [some (.brw o), some (.imm (.obj 0 PL)), some (.imm (.lst T)), some (.imm (.int c)), some (.imm (.int s)), some (.imm (.int C)), some s6, some (.imm (.int r7)), some (.nst false [.inl (.str "told"), .inr (.l XL)]), none, none, none, none, none, none] = .nx [some (.brw o), some (.imm (.obj 0 PL)), some (.imm (.lst T)), some (.imm (.int c)), some (.imm (.int s)), some (.imm (.int C)), some s6, some (.imm (.int r7)), some (.nst false [.inl (.str "told"), .inr (.l XL)]), none, none, none, none, none, none] := by
    simp [i0, i1, gtt, lst, OB.toD]
  have S9 : g__law_cut_right_9 [some (.brw o), some (.imm (.obj 0 PL)), some (.imm (.lst T)), some (.imm (.int c)), some (.imm (.int s)), some (.imm (.int C)), some s6, some (.imm (.int r7)), some (.nst false [.inl (.str "told"), .inr (.l XL)]), some (.imm (.int f)), none, none, none, none, none] = .nx [some (.brw o), some (.imm (.obj 0 PL)), some (.imm (.lst T)), some (.imm (.int c)), some (.imm (.int s)), some (.imm (.int C)), some s6, some (.imm (.int r7)), some (.nst false [.inl (.str "told"), .inr (.l XL)]), some (.imm (.int f)), none, none, none, none, none] := by
    by_cases z : f < 2000
    · simp [z, i1, fnd z, gx, OB.toD]
    · simp [z, OB.toD]
  have S10 : g__law_cut_right_10 [some (.brw o), some (.imm (.obj 0 PL)), some (.imm (.lst T)), some (.imm (.int c)), some (.imm (.int s)), some (.imm (.int C)), some s6, some (.imm (.int r7)), some (.nst false [.inl (.str "told"), .inr (.l XL)]), some (.imm (.int f)), none, none, none, none, none] = .nx [some (.brw o2), some (.imm (.obj 0 PL)), some (.imm (.lst T)), some (.imm (.int c)), some (.imm (.int s)), some (.imm (.int C)), some s6, some (.imm (.int r7)), some (.nst false [.inl (.str "told"), .inr (.l XL)]), some (.imm (.int f)), some (.imm (.lst [.str "told", .lst XF])), none, none, none, none] := by
    simp [ptab_period, pp, e2, asF, OB.toD]
  have S11 : g__law_cut_right_11 [some (.brw o2), some (.imm (.obj 0 PL)), some (.imm (.lst T)), some (.imm (.int c)), some (.imm (.int s)), some (.imm (.int C)), some s6, some (.imm (.int r7)), some (.nst false [.inl (.str "told"), .inr (.l XL)]), some (.imm (.int f)), some (.imm (.lst [.str "told", .lst XF])), none, none, none, none] = .nx [some (.brw o2), some (.imm (.obj 0 PL)), some (.imm (.lst T)), some (.imm (.int c)), some (.imm (.int s)), some (.imm (.int C)), some s6, some (.imm (.int r7)), some (.nst false [.inl (.str "told"), .inr (.l XL)]), some (.imm (.int f)), some (.imm (.lst [.str "told", .lst XF])), none, none, none, none] := by
    simp [lc2, gt2.2, OB.toD]
  have S12 : g__law_cut_right_12 [some (.brw o2), some (.imm (.obj 0 PL)), some (.imm (.lst T)), some (.imm (.int c)), some (.imm (.int s)), some (.imm (.int C)), some s6, some (.imm (.int r7)), some (.nst false [.inl (.str "told"), .inr (.l XL)]), some (.imm (.int f)), some (.imm (.lst [.str "told", .lst XF])), none, none, none, none] = .nx [some (.brw o2), some (.imm (.obj 0 PL)), some (.imm (.lst T)), some (.imm (.int c)), some (.imm (.int s)), some (.imm (.int C)), some s6, some (.imm (.int r7)), some (.nst false [.inl (.str "told"), .inr (.l XL)]), some (.imm (.int f)), some (.imm (.lst [.str "told", .lst XF])), some (.own (.l XL)), none, none, none] := by
    simp [i1, gList, fl, OB.toD]
  have k6 : kill1 (some s6) = some s6 := by rcases h6 with rfl | rfl <;> rfl
  unfold cutSeq
  rw [ap_sSeq, S5, SR.bind_nx, hold_nst H6]
  simp only [killN_cons, killN_nil, kill1_none, kill1_imm, kill1_own, kill1_brw, kill1_nst, k6, List.set_cons_succ, List.set_cons_zero]
  rw [ap_sSeq, S7, SR.bind_nx, ap_sSeq, S8, SR.bind_nx, ap_sSeq, S9, SR.bind_nx, ap_sSeq, S10, SR.bind_nx, ap_sSeq, S11, SR.bind_nx, ap_sSeq, S12, SR.bind_nx]
  rw [mutN_at (k := 1) (tp := false) (ps := [.inl (.str "told"), .inr (.l XL)]) (j := 1) (ds := XL) (ds' := XL ++ [.non]) (as := [.non]) (z := .non) (by simp) (by simp) rfl (by simp [mAppend, xlen])]
  simp only [killN_cons, killN_nil, kill1_none, kill1_imm, kill1_own, kill1_brw, kill1_nst, k6, List.set_cons_succ, List.set_cons_zero]
  by_cases h1 : C ≤ 100
  · rw [if_pos h1] at dfl
    have z : ¬ (100 : Int) < C := by omega
    simp [z, dfl, asT, gt1.1, gt1.2, k6, OB.toD, outR, ioOut]
  · rw [if_neg h1] at dfl
    have z : (100 : Int) < C := by omega
    rcases h6 with rfl | rfl <;> simp [z, dfl, asT, gm1.2, gt1.1, OB.toD, outR, ioOut]
end
end K32

namespace K32
open PySem L2 TS
noncomputable section
-- needs: k32d
theorem cut_many {o : OB} (po : Pot o) {t : List Int} (p : PT t) (c : Int) {s : Int} (hs : sgn2 s) (hc : 300 < cntN s t c) (r7 : Int) {s6 : TS.R} (h6 : s6 = .own (.l [.str "many", .str (numX (cntN s t c)), .bl true]) ∨ s6 = .imm (.lst [.str "many", .str (numX (cntN s t c)), .bl true])) :
    ∃ o', outR (some o) (cutSeq [some (.brw o), some (.imm (pl t)), some (.imm (.lst (iL t))), some (.imm (.int c)), some (.imm (.int s)), some (.imm (.int (cntN s t c))), some s6, some (.imm (.int r7)), none, none, none, none, none, none, none]) = .ok (.imm (.bl true)) (some o') ∧ Pot o' := by
  have cb := cnt_bd p.good p.bd s c
  have asT := asked_ok p c hs (m := 10000) (by decide) (by decide)
  have dfl := default_ok p c hs
  rw [askR_out (by omega)] at dfl
  have asT : m__law_asked none [.obj 0 (planD (least t)), .int c, .int s, .int 10000] = .ok (askR s t c 10000) none := asT
  have dfl : m__law_default none [.obj 0 (planD (least t)), .int c, .int s] = _ := dfl
  have asT : 10000 < cntN s t c → m__law_asked none [.obj 0 (planD (least t)), .int c, .int s, .int 10000] = .ok (.own (.l [.str "many", .str (numX (cntN s t c)), .bl true])) none := fun h => by
    rw [asT, askR_out (by omega)]
  have gm1 := gE_many (numX_ok cb.2).2.2
  refine ⟨o, ?_, po⟩
  change outR (some o) (cutSeq [some (.brw o), some (.imm (.obj 0 (planD (least t)))), some (.imm (.lst (iL t))), some (.imm (.int c)), some (.imm (.int s)), some (.imm (.int (cntN s t c))), some s6, some (.imm (.int r7)), none, none, none, none, none, none, none]) = _
  generalize iL t = T at *
  generalize planD (least t) = PL at *
  generalize cntN s t c = C at *
  generalize numX C = N at *
  unfold cutSeq
  by_cases h1 : 10000 < C
  · have asT := asT h1
    rcases h6 with rfl | rfl <;> simp [h1, hc, dfl, asT, gm1.1, gm1.2, OB.toD, outR, ioOut]
  · rcases h6 with rfl | rfl <;> simp [h1, hc, dfl, gm1.1, gm1.2, OB.toD, outR, ioOut]
theorem cut_right_ok {o : OB} (po : Pot o) {t : List Int} (p : PT t) (c : Int) {s : Int} (hs : sgn2 s) : ∃ o', m__law_cut_right (some o) [pl t, .lst (iL t), .int c, .int s] = .ok (.imm (.bl true)) (some o') ∧ Pot o' := by
  have cb := cnt_bd p.good p.bd s c
  have cn := law_count_ok p.good p.B c hs
  obtain ⟨M, hM⟩ : ∃ M, M = (if (if 200 < cntN s t c then 200 else cntN s t c) > 1 then (if 200 < cntN s t c then 200 else cntN s t c) else 1) := ⟨_, rfl⟩
  have M3 : 0 < M ∧ M ≤ 200 ∧ (0 < cntN s t c → M ≤ cntN s t c) := by
    rw [hM]
    by_cases z : 200 < cntN s t c
    · simp only [z, if_true]
      omega
    · simp only [z, if_false]
      by_cases z2 : cntN s t c > 1
      · simp only [z2, if_true]; omega
      · simp only [z2, if_false]; omega
  obtain ⟨M0, M1, M2⟩ := M3
  have mx : gMax [.int 1, .int (if 200 < cntN s t c then 200 else cntN s t c)] = some (.imm (.int M)) := by rw [gMax_2, hM]
  obtain ⟨r, o2, e2, p2, r0, r1⟩ := draw_ok po (m := M) M0 (by omega)
  have rp := (numX_ok cb.2).1
  have gm1 := gE_many (numX_ok cb.2).2.2
  have asR : 0 < cntN s t c → m__law_asked none [.obj 0 (planD (least t)), .int c, .int s, .int r] = .ok (.own (.l [.str "many", .str (numX (cntN s t c)), .bl true])) none := fun h => by
    have := asked_ok p c hs (m := r) r0 (by omega)
    rw [askR_out (by have := M2 h; omega)] at this
    exact this
  have tail : ∃ s6, g__law_cut_right_4 [some (.brw o2), some (.imm (.obj 0 (planD (least t)))), some (.imm (.lst (iL t))), some (.imm (.int c)), some (.imm (.int s)), some (.imm (.int (cntN s t c))), some (.own (.l [.str "many", .str (numX (cntN s t c)), .bl true])), some (.imm (.int r)), none, none, none, none, none, none, none] = .nx [some (.brw o2), some (.imm (.obj 0 (planD (least t)))), some (.imm (.lst (iL t))), some (.imm (.int c)), some (.imm (.int s)), some (.imm (.int (cntN s t c))), some s6, some (.imm (.int r)), none, none, none, none, none, none, none] ∧ ∃ o', outR (some o) (cutSeq [some (.brw o2), some (.imm (.obj 0 (planD (least t)))), some (.imm (.lst (iL t))), some (.imm (.int c)), some (.imm (.int s)), some (.imm (.int (cntN s t c))), some s6, some (.imm (.int r)), none, none, none, none, none, none, none]) = .ok (.imm (.bl true)) (some o') ∧ Pot o' := by
    have rest : ∀ s6 : TS.R, (s6 = .own (.l [.str "many", .str (numX (cntN s t c)), .bl true]) ∨ s6 = .imm (.lst [.str "many", .str (numX (cntN s t c)), .bl true])) → ∃ o', outR (some o) (cutSeq [some (.brw o2), some (.imm (.obj 0 (planD (least t)))), some (.imm (.lst (iL t))), some (.imm (.int c)), some (.imm (.int s)), some (.imm (.int (cntN s t c))), some s6, some (.imm (.int r)), none, none, none, none, none, none, none]) = .ok (.imm (.bl true)) (some o') ∧ Pot o' := fun s6 h6 => by
      by_cases hc : cntN s t c ≤ 300
      · exact cut_few p2 p c hs hc r h6
      · exact cut_many p2 p c hs (by omega) r h6
    by_cases h0 : 0 < cntN s t c
    · refine ⟨.own (.l [.str "many", .str (numX (cntN s t c)), .bl true]), ?_, rest _ (.inl rfl)⟩
      have asR := asR h0
      clear rest
      generalize iL t = T at *
      generalize planD (least t) = PL at *
      generalize cntN s t c = C at *
      generalize numX C = N at *
      simp [h0, asR, gm1.2, OB.toD]
    · refine ⟨.own (.l [.str "many", .str (numX (cntN s t c)), .bl true]), ?_, rest _ (.inl rfl)⟩
      clear rest
      generalize iL t = T at *
      generalize planD (least t) = PL at *
      generalize cntN s t c = C at *
      generalize numX C = N at *
      simp [h0]
  obtain ⟨s6, S4, o3, tl, p3⟩ := tail
  refine ⟨o3, ?_, p3⟩
  have S1 : g__law_cut_right_1 [some (.brw o), some (.imm (.obj 0 (planD (least t)))), some (.imm (.lst (iL t))), some (.imm (.int c)), some (.imm (.int s)), none, none, none, none, none, none, none, none, none, none] = .nx [some (.brw o), some (.imm (.obj 0 (planD (least t)))), some (.imm (.lst (iL t))), some (.imm (.int c)), some (.imm (.int s)), some (.imm (.int (cntN s t c))), none, none, none, none, none, none, none, none, none] := by
    generalize iL t = T at *
    generalize planD (least t) = PL at *
    generalize cntN s t c = C at *
    simp [cn]
  have S2 : g__law_cut_right_2 [some (.brw o), some (.imm (.obj 0 (planD (least t)))), some (.imm (.lst (iL t))), some (.imm (.int c)), some (.imm (.int s)), some (.imm (.int (cntN s t c))), none, none, none, none, none, none, none, none, none] = .nx [some (.brw o), some (.imm (.obj 0 (planD (least t)))), some (.imm (.lst (iL t))), some (.imm (.int c)), some (.imm (.int s)), some (.imm (.int (cntN s t c))), some (.own (.l [.str "many", .str (numX (cntN s t c)), .bl true])), none, none, none, none, none, none, none, none] := by
    generalize iL t = T at *
    generalize planD (least t) = PL at *
    generalize cntN s t c = C at *
    generalize numX C = N at *
    simp [rp]
  have S3 : g__law_cut_right_3 [some (.brw o), some (.imm (.obj 0 (planD (least t)))), some (.imm (.lst (iL t))), some (.imm (.int c)), some (.imm (.int s)), some (.imm (.int (cntN s t c))), some (.own (.l [.str "many", .str (numX (cntN s t c)), .bl true])), none, none, none, none, none, none, none, none] = .nx [some (.brw o2), some (.imm (.obj 0 (planD (least t)))), some (.imm (.lst (iL t))), some (.imm (.int c)), some (.imm (.int s)), some (.imm (.int (cntN s t c))), some (.own (.l [.str "many", .str (numX (cntN s t c)), .bl true])), some (.imm (.int r)), none, none, none, none, none, none, none] := by
    generalize iL t = T at *
    generalize planD (least t) = PL at *
    generalize cntN s t c = C at *
    generalize numX C = N at *
    simp [-gMax_2, mx, e2]
  unfold m__law_cut_right g__law_cut_right
  unfold mir
  rw [if_pos (by simp [ioN])]
  change outR (some o) (sSeq g__law_cut_right_1 (sSeq g__law_cut_right_2 (sSeq g__law_cut_right_3 (sSeq g__law_cut_right_4 cutSeq))) [some (.brw o), some (.imm (.obj 0 (planD (least t)))), some (.imm (.lst (iL t))), some (.imm (.int c)), some (.imm (.int s)), none, none, none, none, none, none, none, none, none, none]) = _
  rw [ap_sSeq, S1, SR.bind_nx, ap_sSeq, S2, SR.bind_nx, ap_sSeq, S3, SR.bind_nx, ap_sSeq, S4, SR.bind_nx, tl]
end
end K32

namespace K32
open PySem L2 TS
noncomputable section
-- needs: plan
theorem good_add {t : List Int} (h : Good t) {a : Nat} (ha : a < t.length) (k : Int) : Good (t.set a (act t a + t.length * k)) := by
  have hl : (t.set a (act t a + t.length * k)).length = t.length := by simp
  refine good_of_rems (by rw [hl]; exact h.pos) (by rw [hl]; exact h.len) ?_
  rw [hl]
  have e : rems t.length 0 (t.set a (act t a + t.length * k)) = rems t.length 0 t := by
    apply List.ext_getElem?
    intro j
    rw [rems_get, rems_get]
    by_cases hj : a = j
    · subst hj
      rw [List.getElem?_set_self ha, act_get' ha]
      simp only [Option.map_some]
      rw [← Int.add_assoc, Int.add_mul_emod_self_left]
    · rw [List.getElem?_set_ne hj]
  rw [e]
  exact h.rems
end
end K32

namespace K32
open PySem L2 TS
noncomputable section
-- needs: k32e closedT goodadd tableB
theorem range_ok {δ δ' : Sl} {f : FD} {k : Nat} (h : k ≤ 16777216) (e : f δ = .ok (.int (k : Int)) δ') : fLRg1 f δ = .ok (.own (.l (iL (nats 0 k)))) δ' := by
  unfold fLRg1
  rw [e, Res.bind_ok]
  show (if rgOkB 0 (k : Int) = true then Res.ok (R.own (.l (rgD 0 (k : Int)))) δ' else .bad) = _
  rw [if_pos (rgOk_nat h), rgD_nats]
theorem cnt_le {t : List Int} (h : Good t) {B : Int} (hb : ∀ x ∈ t, (x.natAbs : Int) ≤ B) (s c : Int) : cntN s t c ≤ (t.length : Int) * B := by
  have hl := h.least
  have b0 : 0 ≤ B := by
    have := hb _ (act_mem h.pos 0)
    omega
  have hle : (least t).length ≤ t.length := by
    unfold least; rw [List.length_take]; omega
  have hlen : (rowsL s (least t)).length ≤ t.length := by
    have := List.length_filter_le (fun p : Nat × Int => decide (0 < p.2 * s)) (enumL 0 (least t))
    rw [enumL_len] at this
    unfold rowsL; omega
  have a := sum_le_mul (rowN (least t).length c) B (rowsL s (least t)) (fun p hp => by
    have := row_le hl.pos c p
    have hm : p ∈ enumL 0 (least t) := (List.mem_filter.mp hp).1
    have := hb _ (List.mem_of_mem_take (enumL_mem hm).2.2)
    omega)
  have : ((rowsL s (least t)).length : Int) * B ≤ (t.length : Int) * B := Int.mul_le_mul_of_nonneg_right (by omega) b0
  unfold cntN
  omega
theorem far_right_ok {o : OB} (po : Pot o) : ∃ o', m__law_far_right (some o) [] = .ok (.imm (.bl true)) (some o') ∧ Pot o' := by
  obtain ⟨r1, o1, e1, p1, a1, b1⟩ := draw_ok po (m := 3) (by decide) (by decide)
  obtain ⟨s, o2, e2, p2, hs⟩ := pick_ok p1 (xs := [1, -1]) (by simp) (by simp)
  have e2 : m__law_pick (some o1) [.lst [.int 1, .int (-1)]] = .ok (.imm (.int s)) (some o2) := e2
  have hs : sgn2 s := by simpa [sgn2] using hs
  obtain ⟨n, hn⟩ : ∃ n : Nat, 1 + r1 = (n : Int) := ⟨(1 + r1).toNat, by omega⟩
  obtain ⟨goals, o3, e3, p3, q3⟩ := mixed_ok p2 (xs := nats 0 n) (by rw [nats_len]; omega)
  obtain ⟨cg, cl, cb⟩ := clT_good (n := n) (by omega) (by omega) q3
  obtain ⟨r, o4, e4, p4, r0, rn⟩ := draw_ok p3 (m := (n : Int)) (by omega) (by omega)
  have kd : 0 < (5000 : Int) / n ∧ (n : Int) * (5000 / n) ≤ 5000 := by
    have : n = 1 ∨ n = 2 ∨ n = 3 := by omega
    rcases this with h | h | h <;> rw [h] <;> decide
  have kd2 : (5000 : Int) / n ≤ 5000 := Int.ediv_le_self _ (by decide)
  obtain ⟨k, o5, e5, p5, k0, k1⟩ := draw_ok p4 (m := 5000 / (n : Int)) kd.1 (by omega)
  obtain ⟨c, o6, e6, p6, hc⟩ := great_ok p5 (g := 9) (by decide)
  have e6 : m__law_great (some o5) [.int 9] = .ok (.imm (.int c)) (some o6) := e6
  have gl : goals.length = n := by have := q3.length_eq; rwa [nats_len] at this
  have nk : (n : Int) * k ≤ 5000 ∧ 0 ≤ (n : Int) * k := by
    have : (n : Int) * k ≤ n * (5000 / n) := Int.mul_le_mul_of_nonneg_left (by omega) (by omega)
    exact ⟨by omega, Int.mul_nonneg (by omega) k0⟩
  have ug := good_add cg (a := r.toNat) (by omega) (s * k)
  rw [show ((r.toNat : Nat) : Int) = r by omega] at ug
  have ev : act (clT goals) r + s * (n : Int) * k = act (clT goals) r + ((clT goals).length : Int) * (s * k) := by
    rw [cl, Int.mul_comm s (n : Int), Int.mul_assoc]
  have ab := cb _ (act_mem cg.pos r)
  have snk : (s * (n : Int) * k).natAbs ≤ 5000 := by
    rcases hs with rfl | rfl
    · rw [Int.one_mul]; omega
    · rw [Int.neg_mul, Int.one_mul, Int.neg_mul]; omega
  have ub : ∀ x ∈ ((clT goals).set r.toNat (act (clT goals) r + ((clT goals).length : Int) * (s * k))), (x.natAbs : Int) ≤ 20000 := fun x hx => by
    rcases List.mem_or_eq_of_mem_set hx with hx | hx
    · have := cb x hx; omega
    · rw [← ev] at hx; omega
  have ul : ((clT goals).set r.toNat (act (clT goals) r + ((clT goals).length : Int) * (s * k))).length = n := by rw [List.length_set, cl]
  have nn : ∀ x ∈ ((clT goals).set r.toNat (act (clT goals) r + ((clT goals).length : Int) * (s * k))), x.natAbs < 2 ^ 200 := fun x hx => by
    have := ub x hx
    have : (20000 : Nat) < 2 ^ 200 := by decide
    omega
  have PTu : PT ((clT goals).set r.toNat (act (clT goals) r + ((clT goals).length : Int) * (s * k))) := ⟨ug, nn⟩
  have cn := cnt_le ug ub s c
  rw [ul] at cn
  have ini := init_ok ug
  have fnd := law_found_ok ug hs c (fun x hx => by have := ub x hx; omega)
  obtain ⟨r7, o7, e7, p7, a7, b7⟩ := draw_ok p6 (m := 9) (by decide) (by decide)
  have xl := carS_len ug s c
  have ask := asked_ok PTu c hs (m := cntN s ((clT goals).set r.toNat (act (clT goals) r + ((clT goals).length : Int) * (s * k))) c + r7) (by omega) (by omega)
  rw [askR_in (by omega)] at ask
  rw [← xl] at ask
  have ask : m__law_asked none [.obj 0 (planD (least ((clT goals).set r.toNat (act (clT goals) r + ((clT goals).length : Int) * (s * k))))), _, _, _] = _ := ask
  have gt1 := gE_told (srt (carL s ((clT goals).set r.toNat (act (clT goals) r + ((clT goals).length : Int) * (s * k))) c))
  have ix : gIx (.lst (iL (clT goals))) (.int r) = some (.imm (.int (act (clT goals) r))) := by
    have h := gIx_ints (xs := clT goals) (n := r.toNat) (by omega)
    rw [show ((r.toNat : Nat) : Int) = r by omega] at h
    rw [h]
    have := act_get' (t := clT goals) (i := r.toNat) (by omega)
    rw [show ((r.toNat : Nat) : Int) = r by omega, List.getElem?_eq_getElem (by omega)] at this
    rw [Option.some.inj this]
  have so := setOB_int (acc := clT goals) (j := r) r0 (by omega) (act (clT goals) r + ((clT goals).length : Int) * (s * k))
  have ml : gMul (.int s) (.int (n : Int)) = some (.imm (.int (s * n))) := gMul_i (by rcases hs with rfl | rfl <;> decide) (by omega)
  have ml2 : gMul (.int (s * n)) (.int k) = some (.imm (.int (s * n * k))) := gMul_i (by rcases hs with rfl | rfl <;> omega) (by omega)
  have fd : gFdiv (.int 5000) (.int (n : Int)) = some (.imm (.int (5000 / n))) := gFdiv_i (by omega) (by omega)
  have ln : gLen [.lst (iL (srt (carL s ((clT goals).set r.toNat (act (clT goals) r + ((clT goals).length : Int) * (s * k))) c)))] = some (.imm (.int ((srt (carL s ((clT goals).set r.toNat (act (clT goals) r + ((clT goals).length : Int) * (s * k))) c)).length : Int))) := by rw [gLen_l, iL_len]
  have rgl := fLRg1_ok (f := vI 2) (δ := [some (.brw o2), none, some (.imm (.int n)), some (.imm (.int s)), none, none, none, none, none, none]) (k := n) (by omega) (by simp)
  have lc := lc_all (setT := stPair 8 9) (vs := [8, 9]) (fi := itEnum (frz (fOwnIo m__law_mixed 0 (aCons (frz (fLRg1 (vI 2))) aNil)))) (fe := frz (fBin gSub (vI 9) (vP 8))) (inj := fun p : Nat × Int => .tup [.int (p.1 : Int), .int p.2]) (xs := enumL 0 goals) (fun p => .int (p.2 - (p.1 : Int)))
    (δ := [some (.brw o2), none, some (.imm (.int n)), some (.imm (.int s)), none, none, none, none, none, none])
    (δ1 := [some (.brw o3), none, some (.imm (.int n)), some (.imm (.int s)), none, none, none, none, none, none])
    [some (.brw o3), none, some (.imm (.int n)), some (.imm (.int s)), none, none, none, none, none, none]
    (by
      have en := enumD_map goals 0
      rw [← en]
      generalize iL goals = G at *
      simp only [ap_itEnum, ap_frz, ap_fOwnIo, ap_aCons, ap_aNil, rgl]
      simp [e3, OB.toD]) rfl rfl rfl (by rw [enumL_len]; omega) (fun p hpm => ⟨[some (.brw o3), none, some (.imm (.int n)), some (.imm (.int s)), none, none, none, none, some (.imm (.int (p.1 : Int))), some (.imm (.int p.2))], rfl, by simp, rfl⟩)
  have ec : ((enumL 0 goals).map fun p : Nat × Int => D.int (p.2 - (p.1 : Int))) = iL (clT goals) := by simp [clT, iL]
  rw [ec] at lc
  have S1 : g__law_far_right_1 [some (.brw o), none, none, none, none, none, none, none, none, none] = .nx [some (.brw o2), none, some (.imm (.int n)), some (.imm (.int s)), none, none, none, none, none, none] := by simp [e1, e2, hn, OB.toD]
  have S2 : g__law_far_right_2 [some (.brw o2), none, some (.imm (.int n)), some (.imm (.int s)), none, none, none, none, none, none] = .nx [some (.brw o4), none, some (.imm (.int n)), some (.imm (.int s)), some (.own (.l (iL (clT goals)))), some (.imm (.int r)), none, none, none, none] := by
    generalize iL (clT goals) = CL at *
    simp [lc, e4]
  have S3 : g__law_far_right_3 [some (.brw o4), none, some (.imm (.int n)), some (.imm (.int s)), some (.own (.l (iL (clT goals)))), some (.imm (.int r)), none, none, none, none] = .nx [some (.brw o5), none, some (.imm (.int n)), some (.imm (.int s)), some (.own (.l (iL ((clT goals).set r.toNat (act (clT goals) r + ((clT goals).length : Int) * (s * k)))))), some (.imm (.int r)), none, none, none, none] := by
    generalize iL ((clT goals).set r.toNat (act (clT goals) r + ((clT goals).length : Int) * (s * k))) = UL at *
    generalize hCL : iL (clT goals) = CL at *
    simp [ix, ml, fd, e5, ml2, ev, so, hCL]
  refine ⟨o7, ?_, p7⟩
  have ini : m_Plan___init__ (some (.o 0 [])) [.lst (iL ((clT goals).set r.toNat (act (clT goals) r + ((clT goals).length : Int) * (s * k))))] = .ok (.imm .non) (some (.o 0 (planD (least ((clT goals).set r.toNat (act (clT goals) r + ((clT goals).length : Int) * (s * k))))))) := ini
  generalize planD (least ((clT goals).set r.toNat (act (clT goals) r + ((clT goals).length : Int) * (s * k)))) = PL at *
  generalize iL (srt (carL s ((clT goals).set r.toNat (act (clT goals) r + ((clT goals).length : Int) * (s * k))) c)) = XL at *
  generalize iL ((clT goals).set r.toNat (act (clT goals) r + ((clT goals).length : Int) * (s * k))) = UL at *
  generalize iL (clT goals) = CL at *
  generalize (srt (carL s ((clT goals).set r.toNat (act (clT goals) r + ((clT goals).length : Int) * (s * k))) c)).length = XN at *
  have S4 : g__law_far_right_4 [some (.brw o5), none, some (.imm (.int n)), some (.imm (.int s)), some (.own (.l (UL))), some (.imm (.int r)), none, none, none, none] = .nx [some (.brw o6), none, some (.imm (.int n)), some (.imm (.int s)), some (.imm (.lst UL)), some (.imm (.int r)), some (.own (.o 0 PL)), some (.imm (.int c)), none, none] := by
    simp [ini, e6, OB.toD]
  have S5 : g__law_far_right_5 [some (.brw o6), none, some (.imm (.int n)), some (.imm (.int s)), some (.imm (.lst UL)), some (.imm (.int r)), some (.own (.o 0 PL)), some (.imm (.int c)), none, none] = .nx [some (.brw o6), some (.own (.l XL)), some (.imm (.int n)), some (.imm (.int s)), some (.imm (.lst UL)), some (.imm (.int r)), some (.own (.o 0 PL)), some (.imm (.int c)), none, none] := by
    simp [fnd]
  have S6 : outR (some o) (g__law_far_right_6 [some (.brw o6), some (.own (.l XL)), some (.imm (.int n)), some (.imm (.int s)), some (.imm (.lst UL)), some (.imm (.int r)), some (.own (.o 0 PL)), some (.imm (.int c)), none, none]) = .ok (.imm (.bl true)) (some o7) := by
    simp [ln, e7, ask, gt1.1, OB.toD, outR, ioOut]
  unfold m__law_far_right g__law_far_right
  unfold mir
  rw [if_pos (by simp [ioN])]
  change outR (some o) (sSeq _ _ [some (.brw o), none, none, none, none, none, none, none, none, none]) = _
  rw [ap_sSeq, S1, SR.bind_nx, ap_sSeq, S2, SR.bind_nx, ap_sSeq, S3, SR.bind_nx, ap_sSeq, S4, SR.bind_nx, ap_sSeq, S5, SR.bind_nx, S6]
end
end K32

namespace K32
open PySem L2 TS
noncomputable section
-- needs: k32f potB
theorem sg1 : sgn2 1 := .inl rfl
theorem sg2 : sgn2 (-1) := .inr rfl
theorem long_right_ok {o : OB} (po : Pot o) : ∃ o', m__law_long_right (some o) [] = .ok (.imm (.bl true)) (some o') ∧ Pot o' := by
  obtain ⟨r1, o1, e1, p1, a1, b1⟩ := draw_ok po (m := 400) (by decide) (by decide)
  obtain ⟨n, hn⟩ : ∃ n : Nat, 61 + r1 = (n : Int) := ⟨(61 + r1).toNat, by omega⟩
  obtain ⟨goals, o2, e2, p2, q2⟩ := mixed_ok p1 (xs := nats 0 n) (by rw [nats_len]; omega)
  obtain ⟨cg, cl, cb⟩ := clT_good (n := n) (by omega) (by omega) q2
  have gl : goals.length = n := by have := q2.length_eq; rwa [nats_len] at this
  obtain ⟨c, o3, e3, p3, hc⟩ := great_ok p2 (g := 9) (by decide)
  have e3 : m__law_great (some o2) [.int 9] = .ok (.imm (.int c)) (some o3) := e3
  have PTc : PT (clT goals) := ⟨cg, fun x hx => by
    have := cb x hx
    have : (2520 : Nat) < 2 ^ 200 := by decide
    omega⟩
  obtain ⟨o4, e4, p4⟩ := cut_right_ok p3 PTc c sg1
  obtain ⟨o5, e5, p5⟩ := cut_right_ok p4 PTc c sg2
  have e4 : m__law_cut_right (some o3) [.obj 0 (planD (least (clT goals))), .lst (iL (clT goals)), .int c, .int 1] = _ := e4
  have e5 : m__law_cut_right (some o4) [.obj 0 (planD (least (clT goals))), .lst (iL (clT goals)), .int c, .int (-1)] = _ := e5
  have ini := init_ok cg
  have ini : m_Plan___init__ (some (.o 0 [])) [.lst (iL (clT goals))] = .ok (.imm .non) (some (.o 0 (planD (least (clT goals))))) := ini
  have rgl := range_ok (f := (frz (fBin gAdd (kD (.int 61)) (frz (fOwnIo m__law_draw 0 (aCons (kD (.int 400)) aNil)))))) (δ := [some (.brw o), none, none, none, none, none, none, none]) (δ' := [some (.brw o1), none, none, none, none, none, none, none]) (k := n) (by omega) (by simp [e1, hn])
  have lc := lc_all (setT := stPair 5 6) (vs := [5, 6]) (fi := itEnum (vI 1)) (fe := frz (fBin gSub (vI 6) (vP 5))) (inj := fun p : Nat × Int => .tup [.int (p.1 : Int), .int p.2]) (xs := enumL 0 goals) (fun p => .int (p.2 - (p.1 : Int)))
    (δ := [some (.brw o2), some (.own (.l (iL goals))), none, none, none, none, none, none])
    (δ1 := [some (.brw o2), some (.imm (.lst (iL goals))), none, none, none, none, none, none])
    [some (.brw o2), some (.imm (.lst (iL goals))), none, none, none, none, none, none]
    (by
      have en := enumD_map goals 0
      rw [← en]
      generalize iL goals = G at *
      simp [OB.toD]) rfl rfl rfl (by rw [enumL_len]; omega) (fun p hpm => ⟨[some (.brw o2), some (.imm (.lst (iL goals))), none, none, none, some (.imm (.int (p.1 : Int))), some (.imm (.int p.2)), none], rfl, by simp, rfl⟩)
  have ec : ((enumL 0 goals).map fun p : Nat × Int => D.int (p.2 - (p.1 : Int))) = iL (clT goals) := by simp [clT, iL]
  rw [ec] at lc
  have S1 : g__law_long_right_1 [some (.brw o), none, none, none, none, none, none, none] = .nx [some (.brw o2), some (.own (.l (iL goals))), none, none, none, none, none, none] := by
    generalize iL goals = G at *
    show sAsg _ _ _ = _
    simp only [ap_sAsg, ap_fOwnIo, ap_aCons, ap_aNil, ap_frz]
    rw [rgl]
    simp [e2, OB.toD]
  have S2 : g__law_long_right_2 [some (.brw o2), some (.own (.l (iL goals))), none, none, none, none, none, none] = .nx [some (.brw o2), some (.imm (.lst (iL goals))), some (.own (.l (iL (clT goals)))), none, none, none, none, none] := by
    generalize iL (clT goals) = CL at *
    generalize iL goals = G at *
    simp [lc]
  refine ⟨o5, ?_, p5⟩
  generalize planD (least (clT goals)) = PL at *
  generalize iL (clT goals) = CL at *
  generalize iL goals = G at *
  have S3 : g__law_long_right_3 [some (.brw o2), some (.imm (.lst (G))), some (.own (.l (CL))), none, none, none, none, none] = .nx [some (.brw o3), some (.imm (.lst G)), some (.imm (.lst CL)), some (.imm (.obj 0 PL)), some (.imm (.int c)), none, none, none] := by
    simp [ini, e3, OB.toD]
  have S4 : outR (some o) (g__law_long_right_4 [some (.brw o3), some (.imm (.lst G)), some (.imm (.lst CL)), some (.imm (.obj 0 PL)), some (.imm (.int c)), none, none, none]) = .ok (.imm (.bl true)) (some o5) := by
    simp [fLc, lcL, stName, noX, wipeD, restD, freeS, e4, e5, show gAll [.lst [.bl true, .bl true]] = some (.imm (.bl true)) from rfl, OB.toD, outR, ioOut]
  unfold m__law_long_right g__law_long_right
  unfold mir
  rw [if_pos (by simp [ioN])]
  change outR (some o) (sSeq _ _ [some (.brw o), none, none, none, none, none, none, none]) = _
  rw [ap_sSeq, S1, SR.bind_nx, ap_sSeq, S2, SR.bind_nx, ap_sSeq, S3, SR.bind_nx, S4]
theorem right_ok {o : OB} (po : Pot o) : ∃ o', m__law_right (some o) [] = .ok (.imm (.bl true)) (some o') ∧ Pot o' := by
  obtain ⟨r0, o0, e0, p0, _, _⟩ := draw_ok po (m := 9) (by decide) (by decide)
  obtain ⟨o1, S1, p1⟩ : ∃ o1, g__law_right_1 [some (.brw o), none, none, none, none, none] = .nx [some (.brw o1), none, none, none, none, none] ∧ Pot o1 := by
    by_cases hz : r0 = 0
    · obtain ⟨o1, el, p1⟩ := far_right_ok p0
      exact ⟨o1, by simp [e0, hz, el], p1⟩
    · exact ⟨o0, by simp [e0, hz], p0⟩
  obtain ⟨r2, o2, e2, p2, _, _⟩ := draw_ok p1 (m := 30) (by decide) (by decide)
  obtain ⟨o3, S2, p3⟩ : ∃ o3, g__law_right_2 [some (.brw o1), none, none, none, none, none] = .nx [some (.brw o3), none, none, none, none, none] ∧ Pot o3 := by
    by_cases hz : r2 = 0
    · obtain ⟨o3, el, p3⟩ := long_right_ok p2
      exact ⟨o3, by simp [e2, hz, el], p3⟩
    · exact ⟨o2, by simp [e2, hz], p2⟩
  clear e0 e2
  obtain ⟨r4, o4, e4, p4, _, _⟩ := draw_ok p3 (m := 12) (by decide) (by decide)
  obtain ⟨t, o6, S3, p6, gt, bt, lt⟩ : ∃ t o6, g__law_right_3 [some (.brw o3), none, none, none, none, none] = .nx [some (.brw o6), some (.own (.l (iL t))), none, none, none, none] ∧ Pot o6 ∧ Good t ∧ (∀ x ∈ t, -100000000000000000000000000 < x ∧ x < 100000000000000000000000000) ∧ t.length ≤ 200 := by
    by_cases hz : r4 = 0
    · obtain ⟨t, o6, e6, p6, l6, gt, bt⟩ := table_good p4 (n := 60) (f := 1) (by decide) (by decide)
      refine ⟨t, o6, ?_, p6, gt, bt, by rw [l6]; decide⟩
      generalize iL t = T at *
      simp [e4, hz, e6]
    · obtain ⟨r5, o5, e5, p5, a5, b5⟩ := draw_ok p4 (m := 12) (by decide) (by decide)
      obtain ⟨t, o6, e6, p6, l6, gt, bt⟩ := table_good p5 (n := 1 + r5) (f := 1) (by omega) (by decide)
      refine ⟨t, o6, ?_, p6, gt, bt, by rw [l6]; omega⟩
      generalize iL t = T at *
      simp [e4, hz, e5, e6]
  have PTt : PT t := ⟨gt, fun x hx => by
    have := bt x hx
    have : (100000000000000000000000000 : Nat) < 2 ^ 200 := by decide
    omega⟩
  have rp := repr_l (xs := t) (fun x hx => by have := PTt.B x hx; omega) (by omega)
  have eqr : gEq (.str (reprL t)) (.str (reprL t)) = some (.imm (.bl true)) := eq_fine (p := .list (t.map PyData.int)) (by unfold fine; exact fine_ints (fun x hx => by have := PTt.B x hx; omega))
  have ini := init_ok gt
  have ini : m_Plan___init__ (some (.o 0 [])) [.lst (iL t)] = .ok (.imm .non) (some (.o 0 (planD (least t)))) := ini
  obtain ⟨r7, o7, e7, p7, _, _⟩ := draw_ok p6 (m := 41) (by decide) (by decide)
  obtain ⟨c, o8, e8, p8, _⟩ := great_ok p7 (g := 9) (by decide)
  have e8 : m__law_great (some o7) [.int 9] = .ok (.imm (.int c)) (some o8) := e8
  obtain ⟨q1, f1, z1⟩ := cut_right_ok p8 PTt (r7 - 20) sg1
  obtain ⟨q2, f2, z2⟩ := cut_right_ok z1 PTt (r7 - 20) sg2
  obtain ⟨q3, f3, z3⟩ := cut_right_ok z2 PTt c sg1
  obtain ⟨q4, f4, z4⟩ := cut_right_ok z3 PTt c sg2
  obtain ⟨q5, f5, z5⟩ := cut_right_ok z4 PTt 0 sg1
  obtain ⟨q6, f6, z6⟩ := cut_right_ok z5 PTt 0 sg2
  refine ⟨q6, ?_, z6⟩
  have f1 : m__law_cut_right _ [.obj 0 (planD (least t)), _, _, _] = _ := f1
  have f2 : m__law_cut_right _ [.obj 0 (planD (least t)), _, _, _] = _ := f2
  have f3 : m__law_cut_right _ [.obj 0 (planD (least t)), _, _, _] = _ := f3
  have f4 : m__law_cut_right _ [.obj 0 (planD (least t)), _, _, _] = _ := f4
  have f5 : m__law_cut_right _ [.obj 0 (planD (least t)), _, _, _] = _ := f5
  have f6 : m__law_cut_right _ [.obj 0 (planD (least t)), _, _, _] = _ := f6
  clear PTt gt bt
  generalize planD (least t) = PL at *
  generalize reprL t = X at *
  generalize iL t = T at *
  have S4 : g__law_right_4 [some (.brw o6), some (.own (.l T)), none, none, none, none] = .nx [some (.brw o6), some (.imm (.lst T)), none, some (.own (.o 0 PL)), some (.imm (.str X)), none] := by
    simp [ini, rp, OB.toD]
  have inner : ∀ (a b d : OB) (g : Int) (s3 : TS.R) (s5 : Option TS.R), (s3 = .own (.o 0 PL) ∨ s3 = .imm (.obj 0 PL)) → m__law_cut_right (some a) [.obj 0 PL, .lst T, .int g, .int 1] = .ok (.imm (.bl true)) (some b) → m__law_cut_right (some b) [.obj 0 PL, .lst T, .int g, .int (-1)] = .ok (.imm (.bl true)) (some d) →
      g__law_right_5B [some (.brw a), some (.imm (.lst T)), some (.imm (.int g)), some s3, some (.imm (.str X)), s5] = .nx [some (.brw d), some (.imm (.lst T)), some (.imm (.int g)), some (.imm (.obj 0 PL)), some (.imm (.str X)), some (.imm (.int (-1)))] := fun a b d g s3 s5 h3 ea eb => by
    rcases h3 with rfl | rfl <;> simp [forL, ea, eb, OB.toD]
  have B1 := inner o8 q1 q2 (r7 - 20) (.own (.o 0 PL)) none (.inl rfl) f1 f2
  have B2 := inner q2 q3 q4 c (.imm (.obj 0 PL)) (some (.imm (.int (-1)))) (.inr rfl) f3 f4
  have B3 := inner q4 q5 q6 0 (.imm (.obj 0 PL)) (some (.imm (.int (-1)))) (.inr rfl) f5 f6
  have it : itSeq (frz (fLst (aCons (frz (fBin gSub (frz (fOwnIo m__law_draw 0 (aCons (kD (.int 41)) aNil))) (kD (.int 20)))) (aCons (frz (fOwnIo m__law_great 0 (aCons (kD (.int 9)) aNil))) (aCons (kD (.int 0)) aNil))))) [some (.brw o6), some (.imm (.lst T)), none, some (.own (.o 0 PL)), some (.imm (.str X)), none] = .ok [.int (r7 - 20), .int c, .int 0] [some (.brw o8), some (.imm (.lst T)), none, some (.own (.o 0 PL)), some (.imm (.str X)), none] := by
    simp [e7, e8, OB.toD]
  have S5 : g__law_right_5 [some (.brw o6), some (.imm (.lst T)), none, some (.own (.o 0 PL)), some (.imm (.str X)), none] = .nx [some (.brw q6), some (.imm (.lst T)), some (.imm (.int 0)), some (.imm (.obj 0 PL)), some (.imm (.str X)), some (.imm (.int (-1)))] := by
    show sFor _ _ _ _ = _
    rw [ap_sFor, it, Res.bindS_ok]
    simp only [forL, ap_tNameI, SR.bind_nx, List.set_cons_succ, List.set_cons_zero]
    rw [B1]
    simp only [ap_tNameI, SR.bind_nx, List.set_cons_succ, List.set_cons_zero]
    rw [B2]
    simp only [ap_tNameI, SR.bind_nx, List.set_cons_succ, List.set_cons_zero]
    rw [B3]
  have S6 : outR (some o) (g__law_right_6 [some (.brw q6), some (.imm (.lst T)), some (.imm (.int 0)), some (.imm (.obj 0 PL)), some (.imm (.str X)), some (.imm (.int (-1)))]) = .ok (.imm (.bl true)) (some q6) := by
    simp [rp, eqr, outR, ioOut]
  unfold m__law_right g__law_right
  unfold mir
  rw [if_pos (by simp [ioN])]
  change outR (some o) (sSeq _ _ [some (.brw o), none, none, none, none, none]) = _
  rw [ap_sSeq, S1, SR.bind_nx, ap_sSeq, S2, SR.bind_nx, ap_sSeq, S3, SR.bind_nx, ap_sSeq, S4, SR.bind_nx, ap_sSeq, S5, SR.bind_nx, S6]
theorem law_true (ns : List Int) (hl : ns.length ≤ 63) : m_law none [.scr (ns.map D.int)] = .ok (.imm (.bl true)) none := law_of (c := 6) (by decide) ns fun a ha => by
  obtain ⟨o, e, p⟩ := pot_ok ns a ha
  obtain ⟨o', e', p'⟩ := right_ok p
  simp [e, e', fOwnT]
end
end K32

set_option maxHeartbeats 0
namespace K32
open PySem L2 TS
theorem facts {P : Program} {w : World} {K : PySem.W.Frag} {h : Heap} {mg : Str → Option Value} {f : Addr} (X : K.In h) (G : h.Ns mainGlobals mg) (hfa : mg ("law" : Str) = some (.ref f)) (c : SaysT fa fn tn K h) :
    ∃ fd : FuncData, (∀ (s : Shared) (v : Value), BindsTo s fd ⟨[v], []⟩ [("_law_script", v)]) ∧ ∀ base : Heap, K.In base → base.Ns mainGlobals mg → (∀ p ∈ csOf tn K, LamX.TabB base mg p.1 p.2) → TS.FnOk P w K mg base (L2.CX P w) 12 f fd ["_law_script"] (spD (MM K) m_law) := by
  obtain ⟨fd, F⟩ := c.s.def_ 38 (d := d_law) rfl
  have e := hfa.symm.trans (He.glo_ok X G (c.s.fact 96 (f := .he (.glo "law")) rfl))
  cases e
  have b := FunD.bindsA (ps := ["_law_script"]) F fun _ _ _ _ _ _ us hl => match us, hl with | [_], _ => rfl
  exact ⟨fd, fun s v => b s [v] rfl, fun base hX hG hT => funD_mir (M := MM K) F S_law (by decide) (fun cdv A outer s H E hr tk hp => b_law (base := base) ⟨c.s, hX, hG, hT, fun x hx => (c.m x hx).1, c.u⟩ cdv A outer s H E hr tk hp)⟩
theorem sp_law {K : PySem.W.Frag} {H : Hp} {a : Addr} {ns : List Int} (hl : ns.length ≤ 63) (hH : ∀ p ∈ csOf tn K, H p.2 = some (.tbl #[])) (hS : SqL K H a (ns.map V.int)) : spD (MM K) m_law [.ref a] H (fun v _ => v = .bl true) (fun _ _ _ => False) := by
  obtain ⟨F, s, tb, rs⟩ := entry (M := MM K) hS (fun p hp => (List.mem_map.mp hp).elim fun x z => by rw [← z.2]; exact hH _ (List.mem_map.mpr ⟨x, z.1, rfl⟩))
  refine ⟨F, none, 0, [.ref a], [.scr (ns.map D.int)], rfl, s, tb, rs, trivial, ?_⟩
  rw [law_true ns hl]
  intro v F' H' st ra ia
  have z : rep (MM K) F' (.bl true) v := ra
  unfold rep at z
  exact z
end K32
open PySem PySem.W PySem.Calls PyProof.Rows
theorem PySem.Challenge.cw_threeswaps_k32_places_carried_holds : PySem.Challenge.rw_threeswaps_k32_places_carried.Holds := by
  w_on; o_law
  refine HandSHeadRun.head_any (r := OpenLaw.row PySem.Challenge.rw_threeswaps_k32_places_carried) (q := view (OpenLaw.row PySem.Challenge.rw_threeswaps_k32_places_carried).prog [51]) (H := K32.hk) (ob := K32.ob) (M := 6000) (loose := K32.loose) (d := HandSHeadRun.topDef (OpenLaw.row PySem.Challenge.rw_threeswaps_k32_places_carried).prog 51) (kwd := []) K32.ob_eq
    (by kernel_rfl) (fun s => by kernel_rfl) K32.run (by kernel_rfl) (by kernel_rfl) (by kernel_rfl) (by rfl) (by first | assumption | decide +kernel) (by decide +kernel) ⟨rfl, rfl, rfl, rfl, rfl, by decide +kernel⟩ ?hw ?hc
  case hw => w_witness2
  case hc =>
    refine TS.walk_ofT (l := PySem.Challenge.rw_threeswaps_k32_places_carried) (n := 63) (k := 12) (x := "_law_script") (CX := fun w => L2.CX PySem.Challenge.rw_threeswaps_k32_places_carried.prog w) rfl (by decide) (by kernel_rfl) ⟨⟨rfl, by decide, by decide⟩, rfl⟩ ?F (fun _ _ _ _ _ z => TS.noCX z)
    intro w mg fa h Y G hmg0
    obtain ⟨K, KX, c⟩ := Y
    have hmg : mg ("law" : PySem.Str) = some (.ref fa) := by
      have e : (HandSHeadRun.topDef (OpenLaw.row PySem.Challenge.rw_threeswaps_k32_places_carried).prog 51).name = ("law" : PySem.Str) := by kernel_rfl
      rw [← e]
      exact hmg0
    obtain ⟨fd, hb, hF⟩ := K32.facts (P := (PySem.Challenge.rw_threeswaps_k32_places_carried).prog) (w := w) KX G hmg c
    exact ⟨K, TS.csOf K32.tn K, fd, _, KX, TS.cs_tab c, TS.cs_no c, TS.cs_code KX c, hb, fun H a ns hl hH hS => K32.sp_law hl hH hS, hF⟩
