import PyProof.Rows.All
import Wide.All
import OpenK.AllK
import Wide.FinOn
import HandS.ForMost
import HandS.ForExc
import HandS.More
import HandS.Star
import HandS.ClsMeth
import HandS.Property
import HandS.Defaults
import HandS.IsInst
import HandS.Wide
import HandS.WideBits
import HandS.Conv
import HandS.Lambda
import KE.KStateDown
import Lean
import HandS.WordsExc
import HandS.Head0
import HandS.Head1
import HandS.Head2
import HandS.HeadEnd
import HandS.HeadHook1
import HandS.HeadHook2
import KE.KExcInit
import KE.KNestM
import HandS.OwnEq
import HandS.MakeKw
import HandS.MakeKwOnly
import HandS.RaiseMore
import HandS.TryOnly
import HandS.Style
import HandS.SortInts
import PyProof.LongRange
import KE.GoesMore
import HandS.ExcInit
import HandS.ExcField
import HandS.ExcIs
import HandS.TryMany
import KE.KExcIs
import HandS.Zip
import KE.OsSetLaws
import HandS.SetKeys
import PyProof.DictMoreH
import HandS.Small
import HandS.EndTab
import PyProof.ReprBulk
import PyProof.FitsInt
import PySem.Challenge.RW_threeswaps_k12_places_moved
set_option Elab.async false
set_option linter.all false
set_option maxRecDepth 100000
set_option maxRecDepth 100000
set_option maxHeartbeats 4000000
/-! TS1: pure data, slots, ownership, judgements. -/
namespace TS
open PySem L2
noncomputable section
/-- decide, not to be run by the kernel -/
noncomputable def gd (p : Prop) [Decidable p] : Bool := Classical.choose (⟨decide p, rfl⟩ : ∃ b, b = decide p)
theorem gd_eq (p : Prop) [Decidable p] : gd p = decide p := Classical.choose_spec (⟨decide p, rfl⟩ : ∃ b, b = decide p)
theorem gd_true {p : Prop} [Decidable p] (h : p) : gd p = true := by rw [gd_eq]; exact decide_eq_true h
theorem of_gd {p : Prop} [Decidable p] (h : gd p = true) : p := by rw [gd_eq] at h; exact of_decide_eq_true h

/-- what the function value of a slot may be (for a def that gets a lambda) -/
structure Lm where
  p : Hp → V → Prop
  mono : ∀ {F F' : Hp} {v : V}, Same F F' → p F v → p F' v
  rf : ∀ {F : Hp} {v : V}, p F v → ∃ a, v = .ref a
def L0 : Lm := ⟨fun _ _ => False, fun _ h => h, fun h => h.elim⟩
/-- the written part, the own classes by number, the names of their fields in order -/
structure Gm where
  K : PySem.W.Frag
  G : Nat → Option Addr
  nm : Nat → List Str
  T : List (Addr × Str) := []
  lm : Lm := L0
def Gm.wl (M : Gm) (L : Lm) : Gm := { M with lm := L }
def NTb : HO → Bool
  | .tbl _ => false
  | .ext _ => false
  | _ => true
abbrev NT (o : HO) : Prop := NTb o = true
/-- the tables of the makers of lambdas -/
structure Tb (M : Gm) (F H : Hp) : Prop where
  tab : LamX.Tabs M.T H
  fr : ∀ p ∈ M.T, F p.1 = none
  nt : ∀ b ps, F b ≠ some (.tbl ps)
theorem Tb.keep {M : Gm} {F H F' H' : Hp} (t : Tb M F H) (k : ∀ b o, H b = some o → ¬ NT o → H' b = some o) (kf : ∀ b o, H b = some o → ¬ NT o → F b = none → F' b = none) (kn : ∀ b ps, F' b ≠ some (.tbl ps)) : Tb M F' H' where
  tab := fun p hp => by
    obtain ⟨ps, h1, h2, h3⟩ := t.tab p hp
    exact ⟨ps, k _ _ h1 (by intro z; cases z), h2, fun pos cv hc => by
      obtain ⟨c, e1, e2⟩ := h3 pos cv hc
      exact ⟨c, e1, k _ _ e2 (by intro z; cases z)⟩⟩
  fr := fun p hp => by
    obtain ⟨ps, h1, _⟩ := t.tab p hp
    exact kf _ _ h1 (by intro z; cases z) (t.fr p hp)
  nt := kn
theorem Tb.alloc {M : Gm} {F H : Hp} (t : Tb M F H) {p : Addr} {o : HO} (hp : H p = none) : Tb M F (upd H p o) :=
  t.keep (fun b u e _ => by rw [upd_ne (ne_of_none e hp)]; exact e) (fun _ _ _ _ z => z) t.nt
theorem Tb.frz {M : Gm} {F H : Hp} (t : Tb M F H) {p : Addr} {o u : HO} (hp : H p = some o) (n : NT o) (n2 : NT u := by first | rfl | assumption) : Tb M (upd F p u) H :=
  t.keep (fun b u e _ => e) (fun b v e z q => by
    rw [upd_ne (fun y => by rw [y, hp] at e; cases e; exact z n)]; exact q) fun b ps e => by
    by_cases z : b = p
    · rw [z, upd_same] at e; cases e; cases n2
    · rw [upd_ne z] at e; exact t.nt b ps e
theorem Tb.write {M : Gm} {F H : Hp} (t : Tb M F H) {p : Addr} {o u : HO} (hp : H p = some o) (n : NT o) : Tb M F (upd H p u) :=
  t.keep (fun b v e z => by rw [upd_ne (fun y => by rw [y, hp] at e; cases e; exact z n)]; exact e) (fun _ _ _ _ q => q) t.nt
def str0 (H : Hp) : Hp := fun b => match H b with
  | some o => if NTb o then some o else none
  | none => none
theorem str0_nt {H : Hp} {b : Addr} {o : HO} (h : str0 H b = some o) : H b = some o ∧ NT o := by
  unfold str0 at h
  split at h
  · rename_i u e
    split at h
    · rename_i n; cases h; exact ⟨e, n⟩
    · cases h
  · cases h
theorem str0_of {H : Hp} {b : Addr} {o : HO} (h : H b = some o) (n : NT o) : str0 H b = some o := by
  unfold str0
  rw [h]
  simp [show NTb o = true from n]
theorem str0_none {H : Hp} {b : Addr} (h : str0 H b = none) : ∀ o, H b = some o → ¬ NT o := fun o e n => by
  rw [str0_of e n] at h; cases h
theorem str0_of_none {H : Hp} {b : Addr} (h : H b = none) : str0 H b = none := by
  unfold str0; rw [h]
inductive D where
  | non | bl (b : Bool) | int (i : Int) | str (x : Str)
  | lst (xs : List D) | tup (xs : List D) | scr (xs : List D)
  | dK (ks : List Key) (vs : List D) | dT (ks : List (List Key)) (vs : List D)
  | obj (c : Nat) (vs : List D)
  | cls (c : Nat)
  | lam
inductive OB where
  | l (xs : List D) | dK (ks : List Key) (vs : List D) | dT (ks : List (List Key)) (vs : List D) | o (c : Nat) (vs : List D)
def OB.toD : OB → D
  | .l xs => .lst xs
  | .dK ks vs => .dK ks vs
  | .dT ks vs => .dT ks vs
  | .o c vs => .obj c vs
inductive R where
  | imm (d : D) | own (o : OB) | brw (o : OB)
def R.mu : R → Bool
  | .imm _ => false
  | _ => true
abbrev Sl := List (Option R)
structure XD where
  c : Nat
  vs : List D
inductive Res (α : Type) where
  | ok (a : α) (δ : Sl) | exc (x : XD) (δ : Sl) | bad
inductive SR where
  | nx (δ : Sl) | rt (r : R) (δ : Sl) | bk (δ : Sl) | ct (δ : Sl) | exc (x : XD) (δ : Sl) | bad
inductive FR where
  | ok (r : R) (io : Option OB) | exc (x : XD) (io : Option OB) | bad
abbrev Fm := Option OB → List D → FR
abbrev FE := Sl → Res R
abbrev FD := Sl → Res D
abbrev FA := Sl → Res (List D)
abbrev FT := Sl → Res Bool
abbrev FS := Sl → SR
def Res.bind {α β : Type} (m : Res α) (k : α → Sl → Res β) : Res β := match m with
  | .ok a δ => k a δ
  | .exc x δ => .exc x δ
  | .bad => .bad
def Res.bindS {α : Type} (m : Res α) (k : α → Sl → SR) : SR := match m with
  | .ok a δ => k a δ
  | .exc x δ => .exc x δ
  | .bad => .bad
@[simp] theorem Res.bind_ok {α β : Type} (a : α) (δ : Sl) (k : α → Sl → Res β) : (Res.ok a δ).bind k = k a δ := rfl
@[simp] theorem Res.bindS_ok {α : Type} (a : α) (δ : Sl) (k : α → Sl → SR) : (Res.ok a δ).bindS k = k a δ := rfl
@[simp] theorem Res.bind_exc {α β : Type} (x : XD) (δ : Sl) (k : α → Sl → Res β) : (Res.exc x δ : Res α).bind k = .exc x δ := rfl
@[simp] theorem Res.bindS_exc {α : Type} (x : XD) (δ : Sl) (k : α → Sl → SR) : (Res.exc x δ : Res α).bindS k = .exc x δ := rfl

/-! ### data in the heap -/
mutual
def rep (M : Gm) (F : Hp) : D → V → Prop
  | .non, v => v = .non
  | .bl b, v => v = .bl b
  | .int i, v => v = .int i
  | .str x, v => v = .str x
  | .lst ds, v => ∃ a vs, v = .ref a ∧ F a = some (.lst vs) ∧ reps M F ds vs
  | .scr ds, v => ∃ a vs, v = .ref a ∧ SqL M.K F a vs ∧ reps M F ds vs
  | .tup ds, v => ∃ a vs, v = .ref a ∧ F a = some (.tup vs) ∧ reps M F ds vs
  | .dK ks ds, v => ∃ (a : Addr) (kvs : List (Key × V)), v = .ref a ∧ F a = some (.dK kvs) ∧ kvs.map (·.1) = ks ∧ reps M F ds (kvs.map (·.2))
  | .dT ks ds, v => ∃ (a : Addr) (kvs : List (List Key × V)), v = .ref a ∧ F a = some (.dT kvs) ∧ kvs.map (·.1) = ks ∧ reps M F ds (kvs.map (·.2))
  | .obj c ds, v => ∃ (a C dx : Addr) (fs : List (Str × V)), v = .ref a ∧ M.G c = some C ∧ F a = some (.ins C dx fs) ∧ fs.map (·.1) = (M.nm c).take ds.length ∧ reps M F ds (fs.map (·.2))
  | .cls c, v => ∃ C, M.G c = some C ∧ v = .ref C
  | .lam, v => M.lm.p F v
def reps (M : Gm) (F : Hp) : List D → List V → Prop
  | [], vs => vs = []
  | d :: ds, vs => ∃ v r, vs = v :: r ∧ rep M F d v ∧ reps M F ds r
end
def obAt (M : Gm) (F H : Hp) : OB → Addr → Prop
  | .l ds, a => ∃ vs, H a = some (.lst vs) ∧ reps M F ds vs
  | .dK ks ds, a => ∃ (kvs : List (Key × V)), H a = some (.dK kvs) ∧ kvs.map (·.1) = ks ∧ reps M F ds (kvs.map (·.2))
  | .dT ks ds, a => ∃ (kvs : List (List Key × V)), H a = some (.dT kvs) ∧ kvs.map (·.1) = ks ∧ reps M F ds (kvs.map (·.2))
  | .o c ds, a => ∃ (C dx : Addr) (fs : List (Str × V)), M.G c = some C ∧ H a = some (.ins C dx fs) ∧ fs.map (·.1) = (M.nm c).take ds.length ∧ reps M F ds (fs.map (·.2))
theorem Same.seqT {K : PySem.W.Frag} {H H' : Hp} {a : Addr} {xs : List V} (e : Same H H') (h : SqT K H a xs) : SqT K H' a xs := by
  rcases h with (h | ⟨o, h⟩) | h
  · exact .inl (.inl (e _ _ h))
  · exact .inl (.inr ⟨o, e _ _ h⟩)
  · exact .inr h
section
variable {M : Gm} {F F' H H' : Hp}
mutual
theorem rep_mono (e : Same F F') : ∀ (d : D) (v : V), rep M F d v → rep M F' d v
  | .non, v, h => by unfold rep at h ⊢; exact h
  | .bl _, v, h => by unfold rep at h ⊢; exact h
  | .int _, v, h => by unfold rep at h ⊢; exact h
  | .str _, v, h => by unfold rep at h ⊢; exact h
  | .lst ds, v, h => by
    unfold rep at h ⊢
    obtain ⟨a, vs, h1, h2, h3⟩ := h
    exact ⟨a, vs, h1, e _ _ h2, reps_mono e ds vs h3⟩
  | .scr ds, v, h => by
    unfold rep at h ⊢
    obtain ⟨a, vs, h1, h2, h3⟩ := h
    exact ⟨a, vs, h1, e.seq h2, reps_mono e ds vs h3⟩
  | .tup ds, v, h => by
    unfold rep at h ⊢
    obtain ⟨a, vs, h1, h2, h3⟩ := h
    exact ⟨a, vs, h1, e _ _ h2, reps_mono e ds vs h3⟩
  | .dK ks ds, v, h => by
    unfold rep at h ⊢
    obtain ⟨a, vs, h1, h2, h3, h4⟩ := h
    exact ⟨a, vs, h1, e _ _ h2, h3, reps_mono e ds _ h4⟩
  | .dT ks ds, v, h => by
    unfold rep at h ⊢
    obtain ⟨a, vs, h1, h2, h3, h4⟩ := h
    exact ⟨a, vs, h1, e _ _ h2, h3, reps_mono e ds _ h4⟩
  | .obj c ds, v, h => by
    unfold rep at h ⊢
    obtain ⟨a, C, dx, fs, h1, h2, h3, h4, h5⟩ := h
    exact ⟨a, C, dx, fs, h1, h2, e _ _ h3, h4, reps_mono e ds _ h5⟩
  | .cls c, v, h => by unfold rep at h ⊢; exact h
  | .lam, v, h => by unfold rep at h ⊢; exact M.lm.mono e h
theorem reps_mono (e : Same F F') : ∀ (ds : List D) (vs : List V), reps M F ds vs → reps M F' ds vs
  | [], vs, h => by unfold reps at h ⊢; exact h
  | d :: ds, vs, h => by
    unfold reps at h ⊢
    obtain ⟨v, r, h1, h2, h3⟩ := h
    exact ⟨v, r, h1, rep_mono e d v h2, reps_mono e ds r h3⟩
end
theorem reps_length : ∀ {ds : List D} {vs : List V}, reps M F ds vs → vs.length = ds.length
  | [], vs, h => by unfold reps at h; rw [h]; rfl
  | d :: ds, vs, h => by
    unfold reps at h
    obtain ⟨v, r, rfl, _, h3⟩ := h
    simp [reps_length h3]
theorem reps_get : ∀ {ds : List D} {vs : List V} {i : Nat} {d : D}, reps M F ds vs → ds[i]? = some d → ∃ v, vs[i]? = some v ∧ rep M F d v
  | [], vs, i, d, h, e => by simp at e
  | d :: ds, vs, 0, d', h, e => by
    unfold reps at h
    obtain ⟨v, r, rfl, h2, h3⟩ := h
    simp at e; subst e
    exact ⟨v, rfl, h2⟩
  | d :: ds, vs, i + 1, d', h, e => by
    unfold reps at h
    obtain ⟨v, r, rfl, h2, h3⟩ := h
    simp at e
    obtain ⟨w, e1, e2⟩ := reps_get h3 e
    exact ⟨w, by simpa using e1, e2⟩
theorem reps_nil : reps M F [] [] := by unfold reps; rfl
theorem reps_cons {d : D} {ds : List D} {v : V} {vs : List V} (h1 : rep M F d v) (h2 : reps M F ds vs) : reps M F (d :: ds) (v :: vs) := by
  unfold reps; exact ⟨v, vs, rfl, h1, h2⟩
theorem reps_cons_iff {d : D} {ds : List D} {v : V} {vs : List V} : reps M F (d :: ds) (v :: vs) ↔ rep M F d v ∧ reps M F ds vs := by
  constructor
  · intro h
    unfold reps at h
    obtain ⟨v', r, e, h2, h3⟩ := h
    cases e
    exact ⟨h2, h3⟩
  · exact fun h => reps_cons h.1 h.2
theorem reps_append : ∀ {ds es : List D} {vs ws : List V}, reps M F ds vs → reps M F es ws → reps M F (ds ++ es) (vs ++ ws)
  | [], es, vs, ws, h, h' => by unfold reps at h; subst h; exact h'
  | d :: ds, es, vs, ws, h, h' => by
    unfold reps at h
    obtain ⟨v, r, rfl, h2, h3⟩ := h
    exact reps_cons h2 (reps_append h3 h')
theorem reps_take : ∀ {ds : List D} {vs : List V} (n : Nat), reps M F ds vs → reps M F (ds.take n) (vs.take n)
  | _, _, 0, _ => by simp [reps]
  | [], vs, n + 1, h => by unfold reps at h; subst h; simp [reps]
  | d :: ds, vs, n + 1, h => by
    unfold reps at h
    obtain ⟨v, r, rfl, h2, h3⟩ := h
    exact reps_cons h2 (reps_take n h3)
theorem reps_drop : ∀ {ds : List D} {vs : List V} (n : Nat), reps M F ds vs → reps M F (ds.drop n) (vs.drop n)
  | _, _, 0, h => h
  | [], vs, n + 1, h => by unfold reps at h; subst h; simp [reps]
  | d :: ds, vs, n + 1, h => by
    unfold reps at h
    obtain ⟨v, r, rfl, h2, h3⟩ := h
    exact reps_drop n h3
theorem reps_set : ∀ {ds : List D} {vs : List V} {d : D} {v : V} (i : Nat), reps M F ds vs → rep M F d v → reps M F (ds.set i d) (vs.set i v)
  | [], vs, d, v, i, h, _ => by unfold reps at h; subst h; simp [reps]
  | d0 :: ds, vs, d, v, 0, h, hv => by
    unfold reps at h
    obtain ⟨v0, r, rfl, h2, h3⟩ := h
    exact reps_cons hv h3
  | d0 :: ds, vs, d, v, i + 1, h, hv => by
    unfold reps at h
    obtain ⟨v0, r, rfl, h2, h3⟩ := h
    exact reps_cons h2 (reps_set i h3 hv)
theorem reps_split : ∀ {ds es : List D} {vs : List V}, reps M F (ds ++ es) vs → ∃ v1 v2, vs = v1 ++ v2 ∧ reps M F ds v1 ∧ reps M F es v2
  | [], es, vs, h => ⟨[], vs, rfl, reps_nil, h⟩
  | d :: ds, es, vs, h => by
    rw [List.cons_append] at h
    unfold reps at h
    obtain ⟨v, r, rfl, h2, h3⟩ := h
    obtain ⟨v1, v2, rfl, h4, h5⟩ := reps_split h3
    exact ⟨v :: v1, v2, rfl, reps_cons h2 h4, h5⟩
theorem obAt_mono (e : Same F F') {o : OB} {a : Addr} (ha : H' a = H a) (h : obAt M F H o a) : obAt M F' H' o a := by
  cases o with
  | l ds => obtain ⟨vs, h1, h2⟩ := h; exact ⟨vs, ha.trans h1, reps_mono e _ _ h2⟩
  | dK ks ds => obtain ⟨vs, h1, h2, h3⟩ := h; exact ⟨vs, ha.trans h1, h2, reps_mono e _ _ h3⟩
  | dT ks ds => obtain ⟨vs, h1, h2, h3⟩ := h; exact ⟨vs, ha.trans h1, h2, reps_mono e _ _ h3⟩
  | o c ds => obtain ⟨C, dx, fs, h1, h2, h3, h4⟩ := h; exact ⟨C, dx, fs, h1, ha.trans h2, h3, reps_mono e _ _ h4⟩
theorem obAt_some {o : OB} {a : Addr} (h : obAt M F H o a) : ∃ u, H a = some u := by
  cases o with
  | l ds => obtain ⟨vs, h1, h2⟩ := h; exact ⟨_, h1⟩
  | dK ks ds => obtain ⟨vs, h1, h2, h3⟩ := h; exact ⟨_, h1⟩
  | dT ks ds => obtain ⟨vs, h1, h2, h3⟩ := h; exact ⟨_, h1⟩
  | o c ds => obtain ⟨C, dx, fs, h1, h2, h3, h4⟩ := h; exact ⟨_, h2⟩
theorem obAt_nt {o : OB} {a : Addr} (h : obAt M F H o a) : ∃ u, H a = some u ∧ NT u := by
  cases o with
  | l ds => obtain ⟨vs, h1, h2⟩ := h; exact ⟨_, h1, rfl⟩
  | dK ks ds => obtain ⟨vs, h1, h2, h3⟩ := h; exact ⟨_, h1, rfl⟩
  | dT ks ds => obtain ⟨vs, h1, h2, h3⟩ := h; exact ⟨_, h1, rfl⟩
  | o c ds => obtain ⟨C, dx, fs, h1, h2, h3, h4⟩ := h; exact ⟨_, h2, rfl⟩
theorem obAt_rep {o : OB} {a : Addr} (h : obAt M F F o a) : rep M F o.toD (.ref a) := by
  cases o with
  | l ds => obtain ⟨vs, h1, h2⟩ := h; unfold OB.toD rep; exact ⟨a, vs, rfl, h1, h2⟩
  | dK ks ds => obtain ⟨vs, h1, h2, h3⟩ := h; unfold OB.toD rep; exact ⟨a, vs, rfl, h1, h2, h3⟩
  | dT ks ds => obtain ⟨vs, h1, h2, h3⟩ := h; unfold OB.toD rep; exact ⟨a, vs, rfl, h1, h2, h3⟩
  | o c ds => obtain ⟨C, dx, fs, h1, h2, h3, h4⟩ := h; unfold OB.toD rep; exact ⟨a, C, dx, fs, rfl, h1, h2, h3, h4⟩
end

/-! ### the state of a running def -/
structure Cn (M : Gm) where
  F0 : Hp
  H0 : Hp
  io : Option Addr
  iob : ∀ a, io = some a → H0 a ≠ none
  nt : ∀ b o, H0 b = some o → NT o
def slotOk (c : Cn M) (F H : Hp) : R → V → Prop
  | .imm d, v => rep M F d v
  | .own o, v => ∃ a, v = .ref a ∧ F a = none ∧ c.H0 a = none ∧ obAt M F H o a
  | .brw o, v => ∃ a, v = .ref a ∧ F a = none ∧ c.io = some a ∧ obAt M F H o a
structure Ok (c : Cn M) (F H : Hp) (σ : St) (δ : Sl) : Prop where
  same : Same F H
  grow : Same c.F0 F
  nofz : ∀ b, c.H0 b ≠ none → c.F0 b = none → F b = none
  kept : ∀ b o, c.H0 b = some o → c.io ≠ some b → H b = some o
  ioh : ∀ a, c.io = some a → ∃ u, H a = some u ∧ NT u
  tb : Tb M F H
  len : σ.length = δ.length
  slot : ∀ (i : Nat) (r : R), δ[i]? = some (some r) → ∃ v, σ[i]? = some (some v) ∧ slotOk c F H r v
  dist : ∀ (i j : Nat) (r r' : R) (v : V), i ≠ j → δ[i]? = some (some r) → δ[j]? = some (some r') → r.mu = true → r'.mu = true → σ[i]? = some (some v) → σ[j]? = some (some v) → False
def repR (c : Cn M) (F H : Hp) (σ : St) (δ : Sl) : R → V → Prop
  | .imm d, v => rep M F d v
  | .own o, v => ∃ a, v = .ref a ∧ F a = none ∧ c.H0 a = none ∧ obAt M F H o a ∧ ∀ (i : Nat) (r : R), δ[i]? = some (some r) → r.mu = true → σ[i]? ≠ some (some (V.ref a))
  | .brw _, _ => False
section
variable {M : Gm} {c : Cn M} {F F' H H' : Hp} {σ : St} {δ : Sl}
theorem Ok.h0 (ok : Ok c F H σ δ) {p : Addr} (hp : H p = none) : c.H0 p = none := by
  cases e : c.H0 p with
  | none => rfl
  | some o =>
    by_cases hi : c.io = some p
    · obtain ⟨u, e1, _⟩ := ok.ioh p hi
      rw [hp] at e1; cases e1
    · rw [ok.kept p o e hi] at hp; cases hp
theorem Ok.hn (ok : Ok c F H σ δ) {p : Addr} (hp : c.H0 p ≠ none) : ∃ u, H p = some u ∧ NT u := by
  by_cases hi : c.io = some p
  · exact ok.ioh p hi
  · cases e : c.H0 p with
    | none => exact absurd e hp
    | some o => exact ⟨o, ok.kept p o e hi, c.nt p o e⟩
theorem Ok.h1 (ok : Ok c F H σ δ) {p : Addr} (hp : ∀ o, H p = some o → ¬ NT o) : c.H0 p = none := by
  cases e : c.H0 p with
  | none => rfl
  | some o =>
    obtain ⟨u, e1, e2⟩ := ok.hn (p := p) (by rw [e]; exact fun z => by cases z)
    exact absurd e2 (hp u e1)
theorem Ok.f (ok : Ok c F H σ δ) {p : Addr} (hp : H p = none) : F p = none := ok.same.free hp
theorem Ok.mus (ok : Ok c F H σ δ) {i : Nat} {r : R} (e : δ[i]? = some (some r)) (hm : r.mu = true) : ∃ a o, σ[i]? = some (some (.ref a)) ∧ F a = none ∧ obAt M F H o a ∧ (r = .own o ∧ c.H0 a = none ∨ r = .brw o ∧ c.io = some a) := by
  obtain ⟨v, e1, e2⟩ := ok.slot i r e
  cases r with
  | imm d => cases hm
  | own o => obtain ⟨a, rfl, h1, h2, h3⟩ := e2; exact ⟨a, o, e1, h1, h3, .inl ⟨rfl, h2⟩⟩
  | brw o => obtain ⟨a, rfl, h1, h2, h3⟩ := e2; exact ⟨a, o, e1, h1, h3, .inr ⟨rfl, h2⟩⟩
/-- what is not tracked yet is in no slot -/
theorem Ok.fresh1 (ok : Ok c F H σ δ) {p : Addr} (hp : ∀ o, H p = some o → ¬ NT o) : ∀ (i : Nat) (r : R), δ[i]? = some (some r) → r.mu = true → σ[i]? ≠ some (some (V.ref p)) := fun i r e hm q => by
  obtain ⟨a, o, e1, _, h3, _⟩ := ok.mus e hm
  rw [e1] at q
  cases q
  obtain ⟨u, hu, n⟩ := obAt_nt h3
  exact hp u hu n
theorem Ok.fresh (ok : Ok c F H σ δ) {p : Addr} (hp : H p = none) : ∀ (i : Nat) (r : R), δ[i]? = some (some r) → r.mu = true → σ[i]? ≠ some (some (V.ref p)) := fun i r e hm q => by
  obtain ⟨a, o, e1, _, h3, _⟩ := ok.mus e hm
  rw [e1] at q
  cases q
  obtain ⟨u, hu⟩ := obAt_some h3
  rw [hu] at hp; cases hp
/-- a new object beside all -/
theorem Ok.alloc (ok : Ok c F H σ δ) {p : Addr} {o : HO} (hp : H p = none) : Ok c F (upd H p o) σ δ where
  same := fun b u e => by rw [upd_ne (ne_of_none (ok.same b u e) hp)]; exact ok.same b u e
  grow := ok.grow
  nofz := ok.nofz
  kept := fun b u e hi => by
    have := ok.kept b u e hi
    rw [upd_ne (ne_of_none this hp)]; exact this
  ioh := fun a e => by
    obtain ⟨u, e1, e2⟩ := ok.ioh a e
    exact ⟨u, by rw [upd_ne (ne_of_none e1 hp)]; exact e1, e2⟩
  tb := ok.tb.alloc hp
  len := ok.len
  slot := fun i r e => by
    obtain ⟨v, e1, e2⟩ := ok.slot i r e
    refine ⟨v, e1, ?_⟩
    cases r with
    | imm d => exact e2
    | own ob =>
      obtain ⟨a, rfl, h1, h2, h3⟩ := e2
      obtain ⟨u, hu⟩ := obAt_some h3
      exact ⟨a, rfl, h1, h2, obAt_mono (Same.refl _) (upd_ne (ne_of_none hu hp)) h3⟩
    | brw ob =>
      obtain ⟨a, rfl, h1, h2, h3⟩ := e2
      obtain ⟨u, hu⟩ := obAt_some h3
      exact ⟨a, rfl, h1, h2, obAt_mono (Same.refl _) (upd_ne (ne_of_none hu hp)) h3⟩
  dist := ok.dist
/-- a new own list, dict .. as a result -/
theorem Ok.made (ok : Ok c F H σ δ) {p : Addr} {o : HO} {ob : OB} (hp : H p = none) (h : obAt M F (upd H p o) ob p) : repR c F (upd H p o) σ δ (.own ob) (.ref p) :=
  ⟨p, rfl, ok.f hp, ok.h0 hp, h, ok.fresh hp⟩
/-- an own result is frozen -/
theorem Ok.freeze (ok : Ok c F H σ δ) {ob : OB} {v : V} (r : repR c F H σ δ (.own ob) v) : ∃ F', Same F F' ∧ Ok c F' H σ δ ∧ rep M F' ob.toD v := by
  obtain ⟨a, rfl, h1, h2, h3, h4⟩ := r
  obtain ⟨u, hu, hnu⟩ := obAt_nt h3
  have g : Same F (upd F a u) := fun b o e => by rw [upd_ne (ne_of_none e h1)]; exact e
  refine ⟨upd F a u, g, ⟨fun b o e => ?_, ok.grow.trans g, fun b e1 e2 => ?_, ok.kept, ok.ioh, ok.tb.frz hu hnu, ok.len, fun i r e => ?_, ok.dist⟩, ?_⟩
  · by_cases q : b = a
    · subst q; rw [upd_same] at e; cases e; exact hu
    · rw [upd_ne q] at e; exact ok.same b o e
  · have q : b ≠ a := fun z => e1 (z ▸ h2)
    rw [upd_ne q]; exact ok.nofz b e1 e2
  · obtain ⟨v, e1, e2⟩ := ok.slot i r e
    refine ⟨v, e1, ?_⟩
    cases r with
    | imm d => exact rep_mono g _ _ e2
    | own o =>
      obtain ⟨a', rfl, k1, k2, k3⟩ := e2
      have q : a' ≠ a := fun z => h4 i _ e rfl (by rw [e1, z])
      exact ⟨a', rfl, by rw [upd_ne q]; exact k1, k2, obAt_mono g rfl k3⟩
    | brw o =>
      obtain ⟨a', rfl, k1, k2, k3⟩ := e2
      have q : a' ≠ a := fun z => h4 i _ e rfl (by rw [e1, z])
      exact ⟨a', rfl, by rw [upd_ne q]; exact k1, k2, obAt_mono g rfl k3⟩
  · exact obAt_rep (obAt_mono g (upd_same.trans hu.symm) h3)
/-- a slot is set -/
theorem getElem?_set_some {α : Type} {l : List α} {i j : Nat} {x y : α} (h : (l.set i x)[j]? = some y) : (i = j ∧ x = y ∧ i < l.length) ∨ (i ≠ j ∧ l[j]? = some y) := by
  by_cases e : i = j
  · subst e
    by_cases hl : i < l.length
    · rw [List.getElem?_set_self hl] at h
      exact .inl ⟨rfl, Option.some.inj h, hl⟩
    · rw [List.getElem?_eq_none (by simpa using hl)] at h; cases h
  · rw [List.getElem?_set_ne e] at h
    exact .inr ⟨e, h⟩
theorem Ok.setI (ok : Ok c F H σ δ) {d : D} {v : V} (i : Nat) (r : rep M F d v) : Ok c F H (σ.set i (some v)) (δ.set i (some (.imm d))) where
  same := ok.same
  grow := ok.grow
  nofz := ok.nofz
  kept := ok.kept
  ioh := ok.ioh
  tb := ok.tb
  len := by simp [ok.len]
  slot := fun j r' e => by
    rcases getElem?_set_some e with ⟨rfl, e1, hl⟩ | ⟨hn, e1⟩
    · cases e1
      exact ⟨v, List.getElem?_set_self (by rw [ok.len]; exact hl), r⟩
    · rw [List.getElem?_set_ne hn]
      exact ok.slot j r' e1
  dist := fun j k r1 r2 w hjk e1 e2 m1 m2 s1 s2 => by
    rcases getElem?_set_some e1 with ⟨rfl, q, _⟩ | ⟨hn, q1⟩
    · cases q; cases m1
    · rcases getElem?_set_some e2 with ⟨rfl, q, _⟩ | ⟨hn2, q2⟩
      · cases q; cases m2
      · rw [List.getElem?_set_ne hn] at s1
        rw [List.getElem?_set_ne hn2] at s2
        exact ok.dist j k r1 r2 w hjk q1 q2 m1 m2 s1 s2
theorem Ok.setO (ok : Ok c F H σ δ) {ob : OB} {v : V} (i : Nat) (r : repR c F H σ δ (.own ob) v) : Ok c F H (σ.set i (some v)) (δ.set i (some (.own ob))) where
  same := ok.same
  grow := ok.grow
  nofz := ok.nofz
  kept := ok.kept
  ioh := ok.ioh
  tb := ok.tb
  len := by simp [ok.len]
  slot := fun j r' e => by
    rcases getElem?_set_some e with ⟨rfl, e1, hl⟩ | ⟨hn, e1⟩
    · cases e1
      obtain ⟨a, rfl, h1, h2, h3, _⟩ := r
      exact ⟨.ref a, List.getElem?_set_self (by rw [ok.len]; exact hl), a, rfl, h1, h2, h3⟩
    · rw [List.getElem?_set_ne hn]
      exact ok.slot j r' e1
  dist := fun j k r1 r2 w hjk e1 e2 m1 m2 s1 s2 => by
    obtain ⟨a, rfl, h1, h2, h3, h4⟩ := r
    rcases getElem?_set_some e1 with ⟨rfl, q, hl⟩ | ⟨hn, q1⟩
    · rw [List.getElem?_set_self (by rw [ok.len]; exact hl)] at s1
      rcases getElem?_set_some e2 with ⟨rfl, q, _⟩ | ⟨hn2, q2⟩
      · exact hjk rfl
      · rw [List.getElem?_set_ne hn2] at s2
        cases s1
        exact h4 k r2 q2 m2 s2
    · rw [List.getElem?_set_ne hn] at s1
      rcases getElem?_set_some e2 with ⟨rfl, q, hl⟩ | ⟨hn2, q2⟩
      · rw [List.getElem?_set_self (by rw [ok.len]; exact hl)] at s2
        cases s2
        exact h4 j r1 q1 m1 s1
      · rw [List.getElem?_set_ne hn2] at s2
        exact ok.dist j k r1 r2 w hjk q1 q2 m1 m2 s1 s2
/-- what an own or borrowed slot holds is changed: ob' at a in H', all else as it was -/
theorem Ok.mutate (ok : Ok c F H σ δ) {i : Nat} {r r' : R} {a : Addr} {ob ob' : OB} (e : δ[i]? = some (some r)) (hr : r = .own ob ∧ r' = .own ob' ∨ r = .brw ob ∧ r' = .brw ob') (ea : σ[i]? = some (some (.ref a))) (g : Same F F')
    (hF : ∀ b o, b ≠ a → H b = some o → NT o → F b = none → F' b = none) (hFa : F' a = none)
    (hk : ∀ b o, b ≠ a → NT o → H b = some o → H' b = some o) (hs : Same F' H') (htb : Tb M F' H') (hob : obAt M F' H' ob' a) : Ok c F' H' σ (δ.set i (some r')) := by
  have hm : r.mu = true := by rcases hr with ⟨rfl, _⟩ | ⟨rfl, _⟩ <;> rfl
  have hm' : r'.mu = true := by rcases hr with ⟨_, rfl⟩ | ⟨_, rfl⟩ <;> rfl
  obtain ⟨a', o', q1, q2, q3, q4⟩ := ok.mus e hm
  rw [ea] at q1; cases q1
  have ha0 : c.H0 a = none ∨ c.io = some a := by rcases q4 with ⟨_, z⟩ | ⟨_, z⟩; exact .inl z; exact .inr z
  have hfa : F a = none := q2
  refine ⟨hs, ok.grow.trans g, fun b e1 e2 => ?_, fun b o e1 e2 => ?_, fun b e1 => ?_, htb, by simp [ok.len], fun j r1 e1 => ?_, fun j k r1 r2 w hjk e1 e2 m1 m2 s1 s2 => ?_⟩
  · by_cases z : b = a
    · subst z; exact hFa
    · obtain ⟨u, k1, k2⟩ := ok.hn e1
      exact hF b u z k1 k2 (ok.nofz b e1 e2)
  · have z : b ≠ a := fun z => by
      subst z
      rcases ha0 with z | z
      · rw [z] at e1; cases e1
      · exact e2 z
    exact hk b o z (c.nt b o e1) (ok.kept b o e1 e2)
  · obtain ⟨u, hu, hn⟩ := obAt_nt hob
    by_cases z : b = a
    · subst z; exact ⟨u, hu, hn⟩
    · obtain ⟨o, q1, q2⟩ := ok.ioh b e1
      exact ⟨o, hk b o z q2 q1, q2⟩
  · rcases getElem?_set_some e1 with ⟨rfl, z, hl⟩ | ⟨hn, e1⟩
    · cases z
      refine ⟨.ref a, ea, ?_⟩
      rcases hr with ⟨rfl, rfl⟩ | ⟨rfl, rfl⟩
      · rcases q4 with ⟨_, z⟩ | ⟨z, _⟩
        · exact ⟨a, rfl, hFa, z, hob⟩
        · cases z
      · rcases q4 with ⟨z, _⟩ | ⟨_, z⟩
        · cases z
        · exact ⟨a, rfl, hFa, z, hob⟩
    · obtain ⟨v, s1, s2⟩ := ok.slot j r1 e1
      refine ⟨v, s1, ?_⟩
      cases r1 with
      | imm d => exact rep_mono g _ _ s2
      | own o =>
        obtain ⟨b, rfl, k1, k2, k3⟩ := s2
        have z : b ≠ a := fun z => ok.dist i j r (.own o) (.ref a) hn e e1 hm rfl ea (by rw [s1, z])
        obtain ⟨u, hu, hn⟩ := obAt_nt k3
        exact ⟨b, rfl, hF b u z hu hn k1, k2, obAt_mono g ((hk b u z hn hu).trans hu.symm) k3⟩
      | brw o =>
        obtain ⟨b, rfl, k1, k2, k3⟩ := s2
        have z : b ≠ a := fun z => ok.dist i j r (.brw o) (.ref a) hn e e1 hm rfl ea (by rw [s1, z])
        obtain ⟨u, hu, hn⟩ := obAt_nt k3
        exact ⟨b, rfl, hF b u z hu hn k1, k2, obAt_mono g ((hk b u z hn hu).trans hu.symm) k3⟩
  · have f1 : ∃ q, δ[j]? = some (some q) ∧ q.mu = true := by
      rcases getElem?_set_some e1 with ⟨rfl, z, hl⟩ | ⟨hn, z⟩
      · exact ⟨r, e, hm⟩
      · exact ⟨r1, z, m1⟩
    have f2 : ∃ q, δ[k]? = some (some q) ∧ q.mu = true := by
      rcases getElem?_set_some e2 with ⟨rfl, z, hl⟩ | ⟨hn, z⟩
      · exact ⟨r, e, hm⟩
      · exact ⟨r2, z, m2⟩
    obtain ⟨x1, y1, z1⟩ := f1
    obtain ⟨x2, y2, z2⟩ := f2
    exact ok.dist j k x1 x2 w hjk y1 y2 z1 z2 s1 s2
/-- the object of an own or borrowed slot, its heap entry alone changed -/
theorem Ok.write (ok : Ok c F H σ δ) {i : Nat} {r r' : R} {a : Addr} {ob ob' : OB} {o : HO} (e : δ[i]? = some (some r)) (hr : r = .own ob ∧ r' = .own ob' ∨ r = .brw ob ∧ r' = .brw ob') (ea : σ[i]? = some (some (.ref a)))
    (hob : obAt M F (upd H a o) ob' a) : Ok c F (upd H a o) σ (δ.set i (some r')) := by
  have hm : r.mu = true := by rcases hr with ⟨rfl, _⟩ | ⟨rfl, _⟩ <;> rfl
  obtain ⟨a', o', q1, q2, q3, q4⟩ := ok.mus e hm
  rw [ea] at q1; cases q1
  obtain ⟨u0, hu0, hn0⟩ := obAt_nt q3
  refine ok.mutate e hr ea (Same.refl _) (fun _ _ _ _ _ z => z) q2 (fun b u z _ h => by rw [upd_ne z]; exact h) (fun b u h => ?_) (ok.tb.write hu0 hn0) hob
  have z : b ≠ a := fun z => by rw [z, q2] at h; cases h
  rw [upd_ne z]; exact ok.same b u h
end

/-! ### a call's step -/
structure Stp (M : Gm) (F H F' H' : Hp) (io : Option Addr) : Prop where
  grow : Same F F'
  nofz : ∀ b o, H b = some o → NT o → F b = none → F' b = none
  kept : ∀ b o, H b = some o → NT o → io ≠ some b → H' b = some o
  same : Same F' H'
  tb : Tb M F' H'
def ioAt (M : Gm) (F H : Hp) : Option OB → Addr → Prop
  | none, _ => True
  | some o, a => F a = none ∧ obAt M F H o a
def ioV : Option OB → Addr → List V
  | none, _ => []
  | some _, a => [.ref a]
def resAt (M : Gm) (H F' H' : Hp) : R → V → Prop
  | .imm d, v => rep M F' d v
  | .own o, v => ∃ a, v = .ref a ∧ F' a = none ∧ (∀ u, H a = some u → ¬ NT u) ∧ obAt M F' H' o a
  | .brw _, _ => False
def xAt (M : Gm) (F : Hp) (x : XD) (cls : Value) (d : Option Addr) (H : Hp) : Prop :=
  ∃ C, M.G x.c = some C ∧ cls = .ref C ∧ (x.vs = [] ∨ ∃ (dd : Addr) (fs : List (Str × V)), d = some dd ∧ F dd = some (.xd fs) ∧ fs.map (·.1) = M.nm x.c ∧ reps M F x.vs (fs.map (·.2)))
def spD (M : Gm) (f : Fm) : Sp := fun vs H Q E => ∃ (F : Hp) (io : Option OB) (a : Addr) (ws : List V) (ds : List D),
  vs = ioV io a ++ ws ∧ Same F H ∧ Tb M F H ∧ reps M F ds ws ∧ ioAt M F H io a ∧
  match f io ds with
  | .ok r io' => ∀ v F' H', Stp M F H F' H' (io.map fun _ => a) → resAt M H F' H' r v → ioAt M F' H' io' a → Q v H'
  | .exc x io' => ∀ cls d F' H', Stp M F H F' H' (io.map fun _ => a) → xAt M F' x cls d H' → ioAt M F' H' io' a → E cls d H'
  | .bad => False
section
variable {M : Gm} {c : Cn M} {F F' H H' : Hp} {σ : St} {δ : Sl}
theorem Ok.stp (ok : Ok c F H σ δ) (st : Stp M F H F' H' none) : Ok c F' H' σ δ := by
  have kp : ∀ b o, H b = some o → NT o → H' b = some o := fun b o e n => st.kept b o e n (fun z => by cases z)
  refine ⟨st.same, ok.grow.trans st.grow, fun b e1 e2 => ?_, fun b o e1 e2 => kp b o (ok.kept b o e1 e2) (c.nt b o e1), fun b e1 => ?_, st.tb, ok.len, fun i r e => ?_, ok.dist⟩
  · obtain ⟨u, k1, k2⟩ := ok.hn e1
    exact st.nofz b u k1 k2 (ok.nofz b e1 e2)
  · obtain ⟨o, q1, q2⟩ := ok.ioh b e1
    exact ⟨o, kp b o q1 q2, q2⟩
  · obtain ⟨v, s1, s2⟩ := ok.slot i r e
    refine ⟨v, s1, ?_⟩
    cases r with
    | imm d => exact rep_mono st.grow _ _ s2
    | own o =>
      obtain ⟨b, rfl, k1, k2, k3⟩ := s2
      obtain ⟨u, hu, hn⟩ := obAt_nt k3
      exact ⟨b, rfl, st.nofz b u hu hn k1, k2, obAt_mono st.grow ((kp b u hu hn).trans hu.symm) k3⟩
    | brw o =>
      obtain ⟨b, rfl, k1, k2, k3⟩ := s2
      obtain ⟨u, hu, hn⟩ := obAt_nt k3
      exact ⟨b, rfl, st.nofz b u hu hn k1, k2, obAt_mono st.grow ((kp b u hu hn).trans hu.symm) k3⟩
theorem Ok.stpIo (ok : Ok c F H σ δ) {i : Nat} {r r' : R} {a : Addr} {ob ob' : OB} (e : δ[i]? = some (some r)) (hr : r = .own ob ∧ r' = .own ob' ∨ r = .brw ob ∧ r' = .brw ob') (ea : σ[i]? = some (some (.ref a)))
    (st : Stp M F H F' H' (some a)) (h : ioAt M F' H' (some ob') a) : Ok c F' H' σ (δ.set i (some r')) :=
  ok.mutate e hr ea st.grow (fun b o _ e1 n e2 => st.nofz b o e1 n e2) h.1 (fun b o z n q => st.kept b o q n (fun y => z (Option.some.inj y).symm)) st.same st.tb h.2
theorem Ok.resR (ok : Ok c F H σ δ) (st : Stp M F H F' H' none) {r : R} {v : V} (h : resAt M H F' H' r v) : repR c F' H' σ δ r v := by
  cases r with
  | imm d => exact h
  | own o =>
    obtain ⟨a, rfl, h1, h2, h3⟩ := h
    exact ⟨a, rfl, h1, ok.h1 h2, h3, ok.fresh1 h2⟩
  | brw o => exact h
end
end
end TS

set_option maxRecDepth 100000
set_option maxHeartbeats 4000000
/-! TS2: judgements; names, constants, operators, tests, arguments. -/
namespace TS
open PySem L2
noncomputable section

def prep (M : Gm) (F H : Hp) (d : D) (v : V) : Prop := rep M F d v ∨ ∃ o a, v = V.ref a ∧ d = OB.toD o ∧ obAt M F H o a
def Post {α β : Type} (c : Cn M) (W : WX) (F : Hp) (σ : St) (ρ : Hp → Hp → Sl → α → β → Prop) (r : Res α) (Q : β → Hp → Prop) : Prop := match r with
  | .ok a δ' => ∀ v F' H', Same F F' → Ok c F' H' σ δ' → ρ F' H' δ' a v → Q v H'
  | .exc x δ' => ∀ cls d F' H', Same F F' → Ok c F' H' σ δ' → xAt M F' x cls d H' → W cls d σ H'
  | .bad => False
abbrev ρD (c : Cn M) : Hp → Hp → Sl → D → V → Prop := fun F _ _ d v => rep M F d v
abbrev ρP (c : Cn M) : Hp → Hp → Sl → D → V → Prop := fun F H _ d v => prep M F H d v
abbrev ρR (c : Cn M) (σ : St) : Hp → Hp → Sl → R → V → Prop := fun F H δ r v => repR c F H σ δ r v
abbrev ρA (c : Cn M) : Hp → Hp → Sl → List D → List V → Prop := fun F _ _ ds vs => reps M F ds vs
abbrev ρB (c : Cn M) : Hp → Hp → Sl → List D → List V → Prop := fun F H _ ds vs => Paired (prep M F H) ds vs
abbrev ρT : Hp → Hp → Sl → Bool → Bool → Prop := fun _ _ _ b k => b = k
section
variable {M : Gm} {c : Cn M} {W : WX} {F F1 H H1 : Hp} {σ : St} {δ : Sl}
theorem Post.shift {α β : Type} {ρ : Hp → Hp → Sl → α → β → Prop} {r : Res α} {Q : β → Hp → Prop} (h : Post c W F σ ρ r Q) (g : Same F F1) : Post c W F1 σ ρ r Q := by
  cases r with
  | ok a δ' => exact fun v F' H' s => h v F' H' (g.trans s)
  | exc x δ' => exact fun cls d F' H' s => h cls d F' H' (g.trans s)
  | bad => exact h
theorem Post.bind {α β γ ζ : Type} {m : Res α} {k : α → Sl → Res γ} {ρ : Hp → Hp → Sl → α → β → Prop} {ρ' : Hp → Hp → Sl → γ → ζ → Prop} {Q : ζ → Hp → Prop} {T : β → Hp → Prop} (h : Post c W F σ ρ' (m.bind k) Q)
    (f : ∀ a δ1 v F1 H1, m = .ok a δ1 → Same F F1 → Ok c F1 H1 σ δ1 → ρ F1 H1 δ1 a v → Post c W F1 σ ρ' (k a δ1) Q → T v H1) : Post c W F σ ρ m T := by
  cases m with
  | ok a δ' => exact fun v F' H' s ok r => f a δ' v F' H' rfl s ok r (Post.shift h s)
  | exc x δ' => exact h
  | bad => exact h
theorem Post.ok {α β : Type} {ρ : Hp → Hp → Sl → α → β → Prop} {a : α} {δ : Sl} {Q : β → Hp → Prop} (h : Post c W F σ ρ (.ok a δ) Q) {v : β} (ok : Ok c F H σ δ) (r : ρ F H δ a v) : Q v H := h v F H (Same.refl _) ok r
end

def DE (M : Gm) (W : WX) (X : Cx) (e : Expr) (f : FE) : Prop := ∃ t, PE X e t ∧ ∀ (c : Cn M) F H σ δ Q, Ok c F H σ δ → Post c W F σ (ρR c σ) (f δ) Q → t σ H Q
def DI (M : Gm) (W : WX) (X : Cx) (e : Expr) (f : FD) : Prop := ∃ t, PE X e t ∧ ∀ (c : Cn M) F H σ δ Q, Ok c F H σ δ → Post c W F σ (ρD c) (f δ) Q → t σ H Q
def DP (M : Gm) (W : WX) (X : Cx) (e : Expr) (f : FD) : Prop := ∃ t, PE X e t ∧ ∀ (c : Cn M) F H σ δ Q, Ok c F H σ δ → Post c W F σ (ρP c) (f δ) Q → t σ H Q
def DT (M : Gm) (W : WX) (X : Cx) (e : Expr) (f : FT) : Prop := ∃ t, PT X e t ∧ ∀ (c : Cn M) F H σ δ Q, Ok c F H σ δ → Post c W F σ ρT (f δ) Q → t σ H Q
def DW (M : Gm) (W : WX) (X : Cx) (e : Expr) (f : FT) : Prop := ∃ t, PW X e t ∧ ∀ (c : Cn M) F H σ δ Q, Ok c F H σ δ → Post c W F σ ρT (f δ) Q → t σ H Q
def DA (M : Gm) (W : WX) (X : Cx) (es : List Expr) (f : FA) : Prop := ∃ t, PA X es t ∧ ∀ (c : Cn M) F H σ δ Q, Ok c F H σ δ → Post c W F σ (ρA c) (f δ) Q → t σ H Q
def DB (M : Gm) (W : WX) (X : Cx) (es : List Expr) (f : FA) : Prop := ∃ t, PA X es t ∧ ∀ (c : Cn M) F H σ δ Q, Ok c F H σ δ → Post c W F σ (ρB c) (f δ) Q → t σ H Q

/-! ### kinds of results -/
def toE (f : FD) : FE := fun δ => (f δ).bind fun d δ => .ok (.imm d) δ
def frz (f : FE) : FD := fun δ => (f δ).bind fun r δ => match r with
  | .imm d => .ok d δ
  | .own o => .ok o.toD δ
  | .brw _ => .bad
section
variable {M : Gm} {c : Cn M} {W : WX} {X : Cx} {e : Expr}
theorem DI.toE {f : FD} (h : DI M W X e f) : DE M W X e (toE f) := by
  obtain ⟨t, p, h⟩ := h
  exact ⟨t, p, fun c F H σ δ Q ok post => h c F H σ δ Q ok (Post.bind post fun d δ1 v F1 H1 _ s ok1 r post => post.ok ok1 r)⟩
theorem DE.frz {f : FE} (h : DE M W X e f) : DI M W X e (frz f) := by
  obtain ⟨t, p, h⟩ := h
  refine ⟨t, p, fun c F H σ δ Q ok post => h c F H σ δ Q ok (Post.bind post fun r δ1 v F1 H1 _ s ok1 rr post => ?_)⟩
  cases r with
  | imm d => exact post.ok ok1 rr
  | own o =>
    obtain ⟨F', g, ok', r'⟩ := ok1.freeze rr
    exact post v F' H1 g ok' r'
  | brw o => exact post.elim
theorem DE.pk {f : FE} (h : DE M W X e f) : DP M W X e (TS.frz f) := by
  obtain ⟨t, p, h⟩ := h
  refine ⟨t, p, fun c F H σ δ Q ok post => h c F H σ δ Q ok (Post.bind post fun r δ1 v F1 H1 _ s ok1 rr post => ?_)⟩
  cases r with
  | imm d => exact post.ok ok1 (.inl rr)
  | own o =>
    obtain ⟨a, rfl, h1, h2, h3, h4⟩ := rr
    exact post.ok ok1 (.inr ⟨o, a, rfl, rfl, h3⟩)
  | brw o => exact post.elim
theorem DI.pk {f : FD} (h : DI M W X e f) : DP M W X e f := by
  obtain ⟨t, p, h⟩ := h
  refine ⟨t, p, fun c F H σ δ Q ok post => h c F H σ δ Q ok ?_⟩
  cases q : f δ with
  | ok d δ1 => rw [q] at post; exact fun v F' H' s ok' r => post v F' H' s ok' (.inl r)
  | exc x δ1 => rw [q] at post; exact post
  | bad => rw [q] at post; exact post
end

/-! ### names and constants -/
def kD (d : D) : FD := fun δ => .ok d δ
def vI (i : Nat) : FD := fun δ => match δ[i]? with
  | some (some (.imm d)) => .ok d δ
  | some (some (.own o)) => .ok o.toD (δ.set i (some (.imm o.toD)))
  | _ => .bad
def vP (i : Nat) : FD := fun δ => match δ[i]? with
  | some (some (.imm d)) => .ok d δ
  | some (some (.own o)) => .ok o.toD δ
  | some (some (.brw o)) => .ok o.toD δ
  | _ => .bad
def vR (i : Nat) : FE := fun δ => match δ[i]? with
  | some (some (.imm d)) => .ok (.imm d) δ
  | some (some (.own o)) => .ok (.own o) (δ.set i none)
  | _ => .bad
section
variable {M : Gm} {c : Cn M} {W : WX} {X : Cx} {e : Expr}
theorem di_c {v : V} {d : D} (h : PE X e (tC v)) (r : ∀ F, rep M F d v) : DI M W X e (kD d) := ⟨_, h, fun c F H σ δ Q ok post => post.ok ok (r F)⟩
theorem di_int {i j pos} : DI M W X (.Constant (.int i) j pos) (kD (.int i)) := di_c pe_int fun F => by unfold rep; rfl
theorem di_bl {b j pos} : DI M W X (.Constant (.bool b) j pos) (kD (.bl b)) := di_c pe_bl fun F => by unfold rep; rfl
theorem di_non {j pos} : DI M W X (.Constant .none j pos) (kD .non) := di_c pe_non fun F => by unfold rep; rfl
theorem di_str {x j pos} : DI M W X (.Constant (.str x) j pos) (kD (.str x)) := di_c pe_str fun F => by unfold rep; rfl
theorem Ok.drop {F H : Hp} {σ : St} {δ : Sl} (ok : Ok c F H σ δ) (i : Nat) : Ok c F H σ (δ.set i none) where
  same := ok.same
  grow := ok.grow
  nofz := ok.nofz
  kept := ok.kept
  ioh := ok.ioh
  tb := ok.tb
  len := by simp [ok.len]
  slot := fun j r e => by
    rcases getElem?_set_some e with ⟨_, e1, _⟩ | ⟨_, e1⟩
    · cases e1
    · exact ok.slot j r e1
  dist := fun j k r1 r2 w hjk e1 e2 m1 m2 s1 s2 => by
    rcases getElem?_set_some e1 with ⟨_, q, _⟩ | ⟨_, q1⟩
    · cases q
    · rcases getElem?_set_some e2 with ⟨_, q, _⟩ | ⟨_, q2⟩
      · cases q
      · exact ok.dist j k r1 r2 w hjk q1 q2 m1 m2 s1 s2
/-- an own slot is given away -/
theorem Ok.take {F H : Hp} {σ : St} {δ : Sl} (ok : Ok c F H σ δ) {i : Nat} {o : OB} (e : δ[i]? = some (some (.own o))) : ∃ v, σ[i]? = some (some v) ∧ repR c F H σ (δ.set i none) (.own o) v := by
  obtain ⟨v, e1, a, rfl, h1, h2, h3⟩ := ok.slot i _ e
  refine ⟨.ref a, e1, a, rfl, h1, h2, h3, fun j r q hm z => ?_⟩
  rcases getElem?_set_some q with ⟨_, q, _⟩ | ⟨hn, q⟩
  · cases q
  · exact ok.dist i j _ r _ hn e q rfl hm e1 z
theorem Ok.setSame {F H : Hp} {σ : St} {δ : Sl} (ok : Ok c F H σ δ) {i : Nat} {d : D} {v : V} (e1 : σ[i]? = some (some v)) (r : rep M F d v) : Ok c F H σ (δ.set i (some (.imm d))) := by
  have h := ok.setI i r
  have e : σ.set i (some v) = σ := by
    apply List.ext_getElem?
    intro j
    by_cases hj : i = j
    · subst hj
      rw [List.getElem?_set_self (List.getElem?_eq_some_iff.mp e1).1, e1]
    · rw [List.getElem?_set_ne hj]
  rw [e] at h
  exact h
theorem di_var {i : Nat} (h : PE X e (tVar i)) : DI M W X e (vI i) := by
  refine ⟨_, h, fun c F H σ δ Q ok post => ?_⟩
  unfold vI at post
  split at post
  · rename_i d q
    obtain ⟨v, e1, e2⟩ := ok.slot i _ q
    exact ⟨v, e1, post.ok ok e2⟩
  · rename_i o q
    obtain ⟨v, e1, e2⟩ := ok.take q
    obtain ⟨F', g, ok', r'⟩ := (ok.drop i).freeze e2
    have ok2 := ok'.setSame (i := i) e1 r'
    rw [List.set_set] at ok2
    exact ⟨v, e1, post v F' H g ok2 r'⟩
  · exact post.elim
theorem dp_var {i : Nat} (h : PE X e (tVar i)) : DP M W X e (vP i) := by
  refine ⟨_, h, fun c F H σ δ Q ok post => ?_⟩
  unfold vP at post
  split at post
  · rename_i d q
    obtain ⟨v, e1, e2⟩ := ok.slot i _ q
    exact ⟨v, e1, post.ok ok (.inl e2)⟩
  · rename_i o q
    obtain ⟨v, e1, a, rfl, h1, h2, h3⟩ := ok.slot i _ q
    exact ⟨_, e1, post.ok ok (.inr ⟨o, a, rfl, rfl, h3⟩)⟩
  · rename_i o q
    obtain ⟨v, e1, a, rfl, h1, h2, h3⟩ := ok.slot i _ q
    exact ⟨_, e1, post.ok ok (.inr ⟨o, a, rfl, rfl, h3⟩)⟩
  · exact post.elim
theorem de_var {i : Nat} (h : PE X e (tVar i)) : DE M W X e (vR i) := by
  refine ⟨_, h, fun c F H σ δ Q ok post => ?_⟩
  unfold vR at post
  split at post
  · rename_i d q
    obtain ⟨v, e1, e2⟩ := ok.slot i _ q
    exact ⟨v, e1, post.ok ok e2⟩
  · rename_i o q
    obtain ⟨v, e1, e2⟩ := ok.take q
    exact ⟨v, e1, post.ok (ok.drop i) e2⟩
  · exact post.elim
end

/-! ### what a peeked value is -/
section
variable {M : Gm} {c : Cn M} {F H : Hp} {v : V}
theorem prep_non (h : prep M F H .non v) : v = .non := by
  rcases h with h | ⟨o, a, _, e, _⟩
  · unfold rep at h; exact h
  · cases o <;> cases e
theorem prep_bl {b : Bool} (h : prep M F H (.bl b) v) : v = .bl b := by
  rcases h with h | ⟨o, a, _, e, _⟩
  · unfold rep at h; exact h
  · cases o <;> cases e
theorem prep_int {i : Int} (h : prep M F H (.int i) v) : v = .int i := by
  rcases h with h | ⟨o, a, _, e, _⟩
  · unfold rep at h; exact h
  · cases o <;> cases e
theorem prep_str {x : Str} (h : prep M F H (.str x) v) : v = .str x := by
  rcases h with h | ⟨o, a, _, e, _⟩
  · unfold rep at h; exact h
  · cases o <;> cases e
theorem prep_lst {ds : List D} (s : Same F H) (h : prep M F H (.lst ds) v) : ∃ a vs, v = .ref a ∧ H a = some (.lst vs) ∧ reps M F ds vs := by
  rcases h with h | ⟨o, a, ev, e, h⟩
  · unfold rep at h
    obtain ⟨a, vs, h1, h2, h3⟩ := h
    exact ⟨a, vs, h1, s _ _ h2, h3⟩
  · cases o <;> cases e
    obtain ⟨vs, h1, h2⟩ := h
    exact ⟨a, vs, ev, h1, h2⟩
theorem prep_tup {ds : List D} (s : Same F H) (h : prep M F H (.tup ds) v) : ∃ a vs, v = .ref a ∧ SqT M.K H a vs ∧ reps M F ds vs := by
  rcases h with h | ⟨o, a, ev, e, h⟩
  · unfold rep at h
    obtain ⟨a, vs, h1, h2, h3⟩ := h
    exact ⟨a, vs, h1, SqT.of (s _ _ h2), h3⟩
  · cases o <;> cases e
theorem prep_scr {ds : List D} (s : Same F H) (h : prep M F H (.scr ds) v) : ∃ a vs, v = .ref a ∧ SqL M.K H a vs ∧ reps M F ds vs := by
  rcases h with h | ⟨o, a, ev, e, h⟩
  · unfold rep at h
    obtain ⟨a, vs, h1, h2, h3⟩ := h
    exact ⟨a, vs, h1, s.seq h2, h3⟩
  · cases o <;> cases e
theorem prep_dK {ks : List Key} {ds : List D} (s : Same F H) (h : prep M F H (.dK ks ds) v) : ∃ (a : Addr) (kvs : List (Key × V)), v = .ref a ∧ H a = some (.dK kvs) ∧ kvs.map (·.1) = ks ∧ reps M F ds (kvs.map (·.2)) := by
  rcases h with h | ⟨o, a, ev, e, h⟩
  · unfold rep at h
    obtain ⟨a, vs, h1, h2, h3, h4⟩ := h
    exact ⟨a, vs, h1, s _ _ h2, h3, h4⟩
  · cases o <;> cases e
    obtain ⟨vs, h1, h2, h3⟩ := h
    exact ⟨a, vs, ev, h1, h2, h3⟩
theorem prep_dT {ks : List (List Key)} {ds : List D} (s : Same F H) (h : prep M F H (.dT ks ds) v) : ∃ (a : Addr) (kvs : List (List Key × V)), v = .ref a ∧ H a = some (.dT kvs) ∧ kvs.map (·.1) = ks ∧ reps M F ds (kvs.map (·.2)) := by
  rcases h with h | ⟨o, a, ev, e, h⟩
  · unfold rep at h
    obtain ⟨a, vs, h1, h2, h3, h4⟩ := h
    exact ⟨a, vs, h1, s _ _ h2, h3, h4⟩
  · cases o <;> cases e
    obtain ⟨vs, h1, h2, h3⟩ := h
    exact ⟨a, vs, ev, h1, h2, h3⟩
theorem prep_obj {n : Nat} {ds : List D} (s : Same F H) (h : prep M F H (.obj n ds) v) : ∃ (a C dx : Addr) (fs : List (Str × V)), v = .ref a ∧ M.G n = some C ∧ H a = some (.ins C dx fs) ∧ fs.map (·.1) = (M.nm n).take ds.length ∧ reps M F ds (fs.map (·.2)) := by
  rcases h with h | ⟨o, a, ev, e, h⟩
  · unfold rep at h
    obtain ⟨a, C, dx, fs, h1, h2, h3, h4, h5⟩ := h
    exact ⟨a, C, dx, fs, h1, h2, s _ _ h3, h4, h5⟩
  · cases o <;> cases e
    obtain ⟨C, dx, fs, h1, h2, h3, h4⟩ := h
    exact ⟨a, C, dx, fs, ev, h1, h2, h3, h4⟩
end
@[simp] theorem rep_int' {M : Gm} {F : Hp} (i : Int) : rep M F (.int i) (.int i) := by unfold rep; rfl
@[simp] theorem rep_bl' {M : Gm} {F : Hp} (b : Bool) : rep M F (.bl b) (.bl b) := by unfold rep; rfl
@[simp] theorem rep_str' {M : Gm} {F : Hp} (x : Str) : rep M F (.str x) (.str x) := by unfold rep; rfl
@[simp] theorem rep_non' {M : Gm} {F : Hp} : rep M F .non .non := by unfold rep; rfl

section
variable {M : Gm} {c : Cn M} {F H : Hp} {σ : St} {δ : Sl}
theorem rr_int {i : Int} : repR c F H σ δ (.imm (.int i)) (.int i) := rep_int' (M := M) (F := F) i
theorem rr_bl {b : Bool} : repR c F H σ δ (.imm (.bl b)) (.bl b) := rep_bl' (M := M) (F := F) b
theorem rr_str {x : Str} : repR c F H σ δ (.imm (.str x)) (.str x) := rep_str' (M := M) (F := F) x
theorem rr_non : repR c F H σ δ (.imm .non) .non := rep_non' (M := M) (F := F)
end

/-! ### operators, by values -/
def OpD (M : Gm) (r : R2) (g : D → D → Option R) : Prop := ∀ (c : Cn M) (F H : Hp) (σ : St) (δ : Sl) (x y : V) (dx dy : D) (z : R) (Q : VK), Ok c F H σ δ → prep M F H dx x → prep M F H dy y → g dx dy = some z →
  (∀ v F' H', Same F F' → Ok c F' H' σ δ → repR c F' H' σ δ z v → Q v H') → r x y H Q
def gOr (g g' : D → D → Option R) : D → D → Option R := fun x y => match g x y with
  | some z => some z
  | none => g' x y
theorem OpD.or {M : Gm} {r r' : R2} {g g' : D → D → Option R} (h : OpD M r g) (h' : OpD M r' g') : OpD M (fun x y H Q => r x y H Q ∨ r' x y H Q) (gOr g g') := by
  intro c F H σ δ x y dx dy z Q ok px py e q
  unfold gOr at e
  cases e1 : g dx dy with
  | some w =>
    rw [e1] at e
    cases e
    exact .inl (h c F H σ δ x y dx dy _ Q ok px py e1 q)
  | none =>
    rw [e1] at e
    exact .inr (h' c F H σ δ x y dx dy z Q ok px py e q)
def gI (C : Int → Int → Bool) (g : Int → Int → Int) : D → D → Option R
  | .int i, .int j => if C i j then some (.imm (.int (g i j))) else none
  | _, _ => none
def gB (g : Int → Int → Bool) : D → D → Option R
  | .int i, .int j => some (.imm (.bl (g i j)))
  | _, _ => none
theorem od_I {M : Gm} {C : Int → Int → Prop} {Cb : Int → Int → Bool} {g : Int → Int → Int} (hC : ∀ i j, Cb i j = true → C i j) : OpD M (rI C fun i j => .int (g i j)) (gI Cb g) := by
  intro c F H σ δ x y dx dy z Q ok px py e q
  unfold gI at e
  split at e
  · rename_i i j
    split at e
    · rename_i hc
      cases e
      exact ⟨i, j, prep_int px, prep_int py, hC i j hc, q _ F H (Same.refl _) ok rr_int⟩
    · cases e
  · cases e
theorem od_I0 {M : Gm} {g : Int → Int → Int} : OpD M (rI0 fun i j => .int (g i j)) (gI (fun _ _ => true) g) := by
  intro c F H σ δ x y dx dy z Q ok px py e q
  unfold gI at e
  split at e
  · rename_i i j
    cases e
    exact ⟨i, j, prep_int px, prep_int py, q _ F H (Same.refl _) ok rr_int⟩
  · cases e
theorem od_B {M : Gm} {g : Int → Int → Bool} : OpD M (rI0 fun i j => .bl (g i j)) (gB g) := by
  intro c F H σ δ x y dx dy z Q ok px py e q
  unfold gB at e
  split at e
  · rename_i i j
    cases e
    exact ⟨i, j, prep_int px, prep_int py, q _ F H (Same.refl _) ok rr_bl⟩
  · cases e

def fBin (g : D → D → Option R) (fa fb : FD) : FE := fun δ => (fa δ).bind fun x δ1 => (fb δ1).bind fun y δ2 => match g x y with
  | some z => .ok z δ2
  | none => .bad
def there (δ : Sl) (i : Nat) : Bool := match δ[i]? with
  | some (some _) => true
  | _ => false
def fBinV (g : D → D → Option R) (i : Nat) (fb : FD) : FE := fun δ => if there δ i then (fb δ).bind fun y δ1 => (vP i δ1).bind fun x δ2 => match g x y with
  | some z => .ok z δ2
  | none => .bad
  else .bad
section
variable {M : Gm} {c : Cn M} {W : WX} {X : Cx} {a b : Expr} {pos : Pos} {fa fb : FD} {r : R2} {g : D → D → Option R}
theorem bin_of (hd : OpD M r g) {F H : Hp} {σ : St} {δ : Sl} {x y : V} {dx dy : D} {Q : VK} (ok : Ok c F H σ δ) (px : prep M F H dx x) (py : prep M F H dy y)
    (post : Post c W F σ (ρR c σ) (match g dx dy with | some z => .ok z δ | none => .bad) Q) : r x y H Q := by
  cases e : g dx dy with
  | none => rw [e] at post; exact post.elim
  | some z => rw [e] at post; exact hd c F H σ δ x y dx dy z Q ok px py e post
/-- any form whose reading is tOp r -/
theorem d_op {e : Expr} (mk : ∀ {ta tb : TE}, PE X a ta → PE X b tb → PE X e (tOp r ta tb)) (hd : OpD M r g) (ha : DI M W X a fa) (hb : DP M W X b fb) : DE M W X e (fBin g fa fb) := by
  obtain ⟨ta, pa, ha⟩ := ha
  obtain ⟨tb, pb, hb⟩ := hb
  refine ⟨_, mk pa pb, fun c F H σ δ Q ok post => ha c F H σ δ _ ok (Post.bind post fun dx δ1 x F1 H1 _ s1 ok1 rx post => hb c F1 H1 σ δ1 _ ok1 (Post.bind post fun dy δ2 y F2 H2 _ s2 ok2 ry post => ?_))⟩
  exact bin_of hd ok2 (.inl (rep_mono s2 _ _ rx)) ry post
theorem vP_run {i : Nat} {F H : Hp} {σ : St} {δ : Sl} {α β : Type} {k : D → Sl → Res α} {ρ : Hp → Hp → Sl → α → β → Prop} {Q : β → Hp → Prop} {P : Prop} (ok : Ok c F H σ δ) {v : V} (e1 : σ[i]? = some (some v))
    (post : Post c W F σ ρ ((vP i δ).bind k) Q) (h : ∀ d, vP i δ = .ok d δ → prep M F H d v → Post c W F σ ρ (k d δ) Q → P) : P := by
  unfold vP at post h
  split at post
  · rename_i d q
    obtain ⟨v', e2, e3⟩ := ok.slot i _ q
    rw [e1] at e2; cases e2
    exact h d (by rw [q]) (.inl e3) post
  · rename_i o q
    obtain ⟨v', e2, a, rfl, h1, h2, h3⟩ := ok.slot i _ q
    rw [e1] at e2; cases e2
    exact h o.toD (by rw [q]) (.inr ⟨o, a, rfl, rfl, h3⟩) post
  · rename_i o q
    obtain ⟨v', e2, a, rfl, h1, h2, h3⟩ := ok.slot i _ q
    rw [e1] at e2; cases e2
    exact h o.toD (by rw [q]) (.inr ⟨o, a, rfl, rfl, h3⟩) post
  · exact post.elim
theorem there_v {F H : Hp} {σ : St} {δ : Sl} {i : Nat} (ok : Ok c F H σ δ) (h : there δ i = true) : ∃ v, σ[i]? = some (some v) := by
  unfold there at h
  split at h
  · rename_i r q
    obtain ⟨v, e, _⟩ := ok.slot i r q
    exact ⟨v, e⟩
  · cases h
theorem d_opV {e : Expr} {i : Nat} (mk : ∀ {ta tb : TE}, PE X a ta → PE X b tb → PE X e (tOp r ta tb)) (hd : OpD M r g) (ha : PE X a (tVar i)) (hb : DP M W X b fb) : DE M W X e (fBinV g i fb) := by
  obtain ⟨tb, pb, hb⟩ := hb
  refine ⟨_, mk ha pb, fun c F H σ δ Q ok post => ?_⟩
  unfold fBinV at post
  by_cases ht : there δ i = true
  · rw [if_pos ht] at post
    obtain ⟨v, e1⟩ := there_v ok ht
    refine ⟨v, e1, hb c F H σ δ _ ok (Post.bind post fun dy δ2 y F2 H2 _ s2 ok2 ry post => ?_)⟩
    exact vP_run ok2 e1 post fun dx _ px post => bin_of hd ok2 px ry post
  · rw [if_neg ht] at post
    exact post.elim
end

/-! ### int operators -/
def CMulB (i j : Int) : Bool := gd (i.natAbs.log2 + j.natAbs.log2 < 1000000)
def CDivB (i j : Int) : Bool := gd (0 < j ∧ j.natAbs.log2 < 9000)
def CDivNB (i j : Int) : Bool := gd (j < 0 ∧ j.natAbs.log2 < 9000)
def CModB (i j : Int) : Bool := decide (0 < j)
def CPowB (i j : Int) : Bool := gd (0 ≤ j ∧ j ≤ 1000000 ∧ i.natAbs < 18446744073709551616)
section
variable {M : Gm} {c : Cn M} {W : WX} {X : Cx}
theorem od_sub : OpD M (rI0 fun i j => .int (i - j)) (gI (fun _ _ => true) fun i j => i - j) := od_I0
theorem od_mul : OpD M (rI CMulW fun i j => .int (i * j)) (gI CMulB fun i j => i * j) := od_I fun i j h => of_gd (p := (i.natAbs.log2 + j.natAbs.log2 < 1000000)) h
theorem od_fdiv : OpD M (rI CDivW fun i j => .int (i / j)) (gI CDivB fun i j => i / j) := od_I fun i j h => of_gd (p := (0 < j ∧ j.natAbs.log2 < 9000)) h
theorem od_fdivN : OpD M (rI (fun _ j => j < 0 ∧ j.natAbs.log2 < 9000) fun i j => .int (i.fdiv j)) (gI CDivNB fun i j => i.fdiv j) := od_I fun i j h => of_gd (p := (j < 0 ∧ j.natAbs.log2 < 9000)) h
theorem od_mod : OpD M (rI (fun _ j => 0 < j) fun i j => .int (i % j)) (gI CModB fun i j => i % j) := od_I fun i j h => of_decide_eq_true h
theorem od_pow : OpD M (rI CPow fun i j => .int (i ^ j.toNat)) (gI CPowB fun i j => i ^ j.toNat) := od_I fun i j h => by
  obtain ⟨h1, h2, h3⟩ := of_gd h
  exact ⟨h1, h2, by have e : (2:Nat) ^ 64 = 18446744073709551616 := by decide
                    rw [e]; exact h3⟩
end
/-! list + list, list * int, text + text -/
def gCat : D → D → Option R
  | .lst xs, .lst ys => if xs.length + ys.length ≤ 16777216 then some (.own (.l (xs ++ ys))) else none
  | _, _ => none
def gRep : D → D → Option R
  | .lst xs, .int k => if gd (0 ≤ k ∧ k < 9223372036854775808 ∧ xs.length * k.toNat ≤ 16777216) then some (.own (.l ((List.replicate k.toNat xs).flatten))) else none
  | _, _ => none
def gCatS : D → D → Option R
  | .str x, .str y => if x.length + y.length ≤ 16777216 then some (.imm (.str (x ++ y))) else none
  | _, _ => none
theorem reps_rep {M : Gm} {F : Hp} {ds : List D} {vs : List V} (h : reps M F ds vs) : ∀ n : Nat, reps M F (List.replicate n ds).flatten (List.replicate n vs).flatten
  | 0 => by simp [reps]
  | n + 1 => by
    rw [List.replicate_succ, List.replicate_succ, List.flatten_cons, List.flatten_cons]
    exact reps_append h (reps_rep h n)
section
variable {M : Gm} {c : Cn M} {W : WX} {X : Cx}
theorem new_list {F H : Hp} {σ : St} {δ : Sl} (ok : Ok c F H σ δ) {p : Addr} (hp : H p = none) {ds : List D} {vs : List V} (r : reps M F ds vs) : Ok c F (upd H p (.lst vs)) σ δ ∧ repR c F (upd H p (.lst vs)) σ δ (.own (.l ds)) (.ref p) :=
  ⟨ok.alloc hp, ok.made hp ⟨vs, upd_same, r⟩⟩
theorem od_cat : OpD M rCat gCat := by
  intro c F H σ δ x y dx dy z Q ok px py e q
  unfold gCat at e
  split at e
  · rename_i xs ys
    split at e
    · rename_i hl
      cases e
      obtain ⟨a, vs, h1, h2, h3⟩ := prep_lst ok.same px
      obtain ⟨b, ws, k1, k2, k3⟩ := prep_lst ok.same py
      refine ⟨a, b, vs, ws, h1, k1, h2, k2, ?_, fun p hp => ?_⟩
      · rw [reps_length h3, reps_length k3, sizeLine_eq]; exact hl
      · obtain ⟨o1, o2⟩ := new_list ok hp (reps_append h3 k3)
        exact q _ F _ (Same.refl _) o1 o2
    · cases e
  · cases e
theorem od_rep : OpD M rRep gRep := by
  intro c F H σ δ x y dx dy z Q ok px py e q
  unfold gRep at e
  split at e
  · rename_i xs k
    split at e
    · rename_i hl
      cases e
      obtain ⟨h0, hk, hz⟩ := of_gd hl
      obtain ⟨a, vs, h1, h2, h3⟩ := prep_lst ok.same px
      refine ⟨a, k, vs, h1, prep_int py, h2, by omega, by omega, ?_, fun p hp => ?_⟩
      · rw [reps_length h3, sizeLine_eq]; exact hz
      · obtain ⟨o1, o2⟩ := new_list ok hp (reps_rep h3 k.toNat)
        exact q _ F _ (Same.refl _) o1 o2
    · cases e
  · cases e
theorem od_catS : OpD M (fun x y H Q => ∃ i j, x = .str i ∧ y = .str j ∧ i.length + j.length ≤ sizeLine ∧ Q (.str (i ++ j)) H) gCatS := by
  intro c F H σ δ x y dx dy z Q ok px py e q
  unfold gCatS at e
  split at e
  · rename_i i j
    split at e
    · rename_i hl
      cases e
      exact ⟨i, j, prep_str px, prep_str py, by rw [sizeLine_eq]; exact hl, q _ F H (Same.refl _) ok rr_str⟩
    · cases e
  · cases e
end
end
end TS

set_option maxRecDepth 100000
set_option maxHeartbeats 4000000
/-! TS3: ==, in, subscripts; tests; arguments; calls of built-ins. -/
namespace TS
open PySem L2
noncomputable section

mutual
def toP : D → Option PyData
  | .non => some .none
  | .bl b => some (.bool b)
  | .int i => some (.int i)
  | .str x => some (.str x)
  | .lst ds => (toPs ds).map .list
  | .tup ds => (toPs ds).map .tuple
  | _ => none
def toPs : List D → Option (List PyData)
  | [] => some []
  | d :: ds => match toP d, toPs ds with
    | some p, some ps => some (p :: ps)
    | _, _ => none
end
section
variable {M : Gm} {F H : Hp}
mutual
theorem rep_dp (s : Same F H) : ∀ (d : D) (v : V) (p : PyData), rep M F d v → toP d = some p → Dp M.K H v p
  | .non, v, p, h, e => by unfold rep at h; unfold toP at e; cases e; subst h; exact .non
  | .bl b, v, p, h, e => by unfold rep at h; unfold toP at e; cases e; subst h; exact .bl b
  | .int b, v, p, h, e => by unfold rep at h; unfold toP at e; cases e; subst h; exact .int b
  | .str b, v, p, h, e => by unfold rep at h; unfold toP at e; cases e; subst h; exact .str b
  | .lst ds, v, p, h, e => by
    unfold rep at h
    unfold toP at e
    obtain ⟨ps, e1, rfl⟩ := Option.map_eq_some_iff.mp e
    obtain ⟨a, vs, rfl, h2, h3⟩ := h
    exact .lst (SqL.of (s _ _ h2)) (reps_dp s ds vs ps h3 e1)
  | .tup ds, v, p, h, e => by
    unfold rep at h
    unfold toP at e
    obtain ⟨ps, e1, rfl⟩ := Option.map_eq_some_iff.mp e
    obtain ⟨a, vs, rfl, h2, h3⟩ := h
    exact .tup (SqT.of (s _ _ h2)) (reps_dp s ds vs ps h3 e1)
  | .scr ds, v, p, h, e => by unfold toP at e; cases e
  | .dK ks ds, v, p, h, e => by unfold toP at e; cases e
  | .dT ks ds, v, p, h, e => by unfold toP at e; cases e
  | .obj c ds, v, p, h, e => by unfold toP at e; cases e
  | .cls c, v, p, h, e => by unfold toP at e; cases e
theorem reps_dp (s : Same F H) : ∀ (ds : List D) (vs : List V) (ps : List PyData), reps M F ds vs → toPs ds = some ps → DpAll M.K H vs ps
  | [], vs, ps, h, e => by unfold reps at h; unfold toPs at e; cases e; subst h; exact .nil
  | d :: ds, vs, ps, h, e => by
    unfold reps at h
    obtain ⟨v, r, rfl, h2, h3⟩ := h
    unfold toPs at e
    split at e
    · rename_i p qs e1 e2
      cases e
      exact .cons (rep_dp s d v p h2 e1) (reps_dp s ds r qs h3 e2)
    · cases e
end
end
theorem prep_dp {M : Gm} {F H : Hp} {d : D} {v : V} {p : PyData} (s : Same F H) (h : prep M F H d v) (e : toP d = some p) : Dp M.K H v p := by
  rcases h with h | ⟨o, a, rfl, rfl, h⟩
  · exact rep_dp s d v p h e
  · cases o with
    | l ds =>
      obtain ⟨vs, h1, h2⟩ := h
      unfold OB.toD toP at e
      obtain ⟨ps, e1, rfl⟩ := Option.map_eq_some_iff.mp e
      exact .lst (SqL.of h1) (reps_dp s ds vs ps h2 e1)
    | dK ks ds => unfold OB.toD toP at e; cases e
    | dT ks ds => unfold OB.toD toP at e; cases e
    | o n ds => unfold OB.toD toP at e; cases e
def gEq : D → D → Option R := fun x y => match toP x, toP y with
  | some p, some q => if SeqAt.shaped p && SeqAt.shaped q then some (.imm (.bl (PyData.eqv p q))) else none
  | _, _ => none
def gNe : D → D → Option R := fun x y => match toP x, toP y with
  | some p, some q => if SeqAt.shaped p && SeqAt.shaped q then some (.imm (.bl (!PyData.eqv p q))) else none
  | _, _ => none
theorem od_eq {M : Gm} : OpD M (rEqD M.K) gEq := by
  intro c F H σ δ x y dx dy z Q ok px py e q
  unfold gEq at e
  split at e
  · rename_i p p' e1 e2
    split at e
    · rename_i hs
      cases e
      rw [Bool.and_eq_true] at hs
      exact ⟨p, p', prep_dp ok.same px e1, prep_dp ok.same py e2, hs.1, hs.2, q _ F H (Same.refl _) ok rr_bl⟩
    · cases e
  · cases e
theorem od_ne {M : Gm} : OpD M (rNeD M.K) gNe := by
  intro c F H σ δ x y dx dy z Q ok px py e q
  unfold gNe at e
  split at e
  · rename_i p p' e1 e2
    split at e
    · rename_i hs
      cases e
      rw [Bool.and_eq_true] at hs
      exact ⟨p, p', prep_dp ok.same px e1, prep_dp ok.same py e2, hs.1, hs.2, q _ F H (Same.refl _) ok rr_bl⟩
    · cases e
  · cases e
/-! is None -/
def gIsN : D → D → Option R
  | .non, .non => some (.imm (.bl true))
  | _, .non => some (.imm (.bl false))
  | _, _ => none
def gNotN : D → D → Option R
  | .non, .non => some (.imm (.bl false))
  | _, .non => some (.imm (.bl true))
  | _, _ => none
theorem prep_ne_non {M : Gm} {F H : Hp} {d : D} {v : V} (h : prep M F H d v) (hd : d ≠ .non) : v ≠ .non := by
  rcases h with h | ⟨o, a, rfl, _, _⟩
  · cases d <;> unfold rep at h <;> first | exact absurd rfl hd | (rintro rfl; cases h; done) | (rintro rfl; obtain ⟨_, _, h, _⟩ := h; cases h; done) | (rintro rfl; obtain ⟨_, _, _, _, h, _⟩ := h; cases h; done) | (rintro rfl; obtain ⟨_, _, h⟩ := h; cases h; done) | (rintro rfl; obtain ⟨_, h⟩ := M.lm.rf h; cases h; done)
  · intro h; cases h
theorem od_isN {M : Gm} : OpD M (fun x y H Q => y = .non ∧ Q (.bl (decide (x = .non))) H) gIsN := by
  intro c F H σ δ x y dx dy z Q ok px py e q
  unfold gIsN at e
  split at e
  · cases e
    have h1 := prep_non px
    subst h1
    exact ⟨prep_non py, q _ F H (Same.refl _) ok rr_bl⟩
  · rename_i hn
    cases e
    refine ⟨prep_non py, ?_⟩
    rw [decide_eq_false (prep_ne_non px hn)]
    exact q _ F H (Same.refl _) ok rr_bl
  · cases e
theorem od_notN {M : Gm} : OpD M (fun x y H Q => y = .non ∧ Q (.bl (!decide (x = .non))) H) gNotN := by
  intro c F H σ δ x y dx dy z Q ok px py e q
  unfold gNotN at e
  split at e
  · cases e
    have h1 := prep_non px
    subst h1
    exact ⟨prep_non py, q _ F H (Same.refl _) ok rr_bl⟩
  · rename_i hn
    cases e
    refine ⟨prep_non py, ?_⟩
    rw [decide_eq_false (prep_ne_non px hn)]
    exact q _ F H (Same.refl _) ok rr_bl
  · cases e

/-! ### keys and dicts -/
def keyOf : D → Option Key
  | .int i => some (.inl i)
  | .str x => some (.inr x)
  | _ => none
def keysOf : List D → Option (List Key)
  | [] => some []
  | d :: ds => match keyOf d, keysOf ds with
    | some k, some ks => some (k :: ks)
    | _, _ => none
def lookD {κ : Type} [DecidableEq κ] : List κ → List D → κ → Option D
  | k' :: ks, d :: ds, k => if k' = k then some d else lookD ks ds k
  | _, _, _ => none
theorem keyOf_v {M : Gm} {F H : Hp} {d : D} {v : V} {k : Key} (h : prep M F H d v) (e : keyOf d = some k) : v = kV k := by
  cases d <;> simp [keyOf] at e
  · subst e; exact prep_int h
  · subst e; exact prep_str h
theorem lookD_val {M : Gm} {F : Hp} {κ : Type} [DecidableEq κ] : ∀ {kvs : List (κ × V)} {ds : List D} (k : κ), reps M F ds (kvs.map (·.2)) → (∀ d, lookD (kvs.map (·.1)) ds k = some d → ∃ v, valV kvs k = some v ∧ rep M F d v) ∧ (lookD (kvs.map (·.1)) ds k = none → valV kvs k = none)
  | [], ds, k, h => by
    constructor
    · intro d e; simp [lookD] at e
    · intro _; rfl
  | p :: kvs, ds, k, h => by
    cases ds with
    | nil => unfold reps at h; cases h
    | cons d ds =>
      rw [List.map_cons, reps_cons_iff] at h
      obtain ⟨h1, h2⟩ := h
      have ih := lookD_val k h2
      unfold valV at ih ⊢
      by_cases e : p.1 = k
      · constructor
        · intro d' e'
          simp only [List.map_cons, lookD, if_pos e] at e'
          cases e'
          exact ⟨p.2, by simp [List.find?_cons, e], h1⟩
        · intro e'
          simp only [List.map_cons, lookD, if_pos e] at e'
          cases e'
      · constructor
        · intro d' e'
          simp only [List.map_cons, lookD, if_neg e] at e'
          obtain ⟨v, q1, q2⟩ := ih.1 d' e'
          exact ⟨v, by simp only [List.find?_cons, decide_eq_false e]; exact q1, q2⟩
        · intro e'
          simp only [List.map_cons, lookD, if_neg e] at e'
          simp only [List.find?_cons, decide_eq_false e]
          exact ih.2 e'
/-! ### subscripts -/
theorem atI_reps {M : Gm} {F : Hp} {ds : List D} {vs : List V} {i : Int} {d : D} (h : reps M F ds vs) (e : atI ds i = some d) : ∃ v, atI vs i = some v ∧ rep M F d v := by
  unfold atI at e ⊢
  rw [reps_length h]
  cases q : ixN ds.length i with
  | none => rw [q] at e; cases e
  | some j =>
    rw [q] at e
    exact reps_get h e
theorem keysOf_v {M : Gm} {F : Hp} : ∀ {ds : List D} {vs : List V} {ks : List Key}, reps M F ds vs → keysOf ds = some ks → vs = ks.map kV
  | [], vs, ks, h, e => by unfold reps at h; unfold keysOf at e; cases e; subst h; rfl
  | d :: ds, vs, ks, h, e => by
    unfold reps at h
    obtain ⟨v, r, rfl, h2, h3⟩ := h
    unfold keysOf at e
    split at e
    · rename_i k ks' e1 e2
      cases e
      rw [keyOf_v (M := M) (F := F) (H := F) (.inl h2) e1, keysOf_v h3 e2]; rfl
    · cases e
theorem prep_tupK {M : Gm} {F H : Hp} {v : V} {ds : List D} {ks : List Key} (s : Same F H) (h : prep M F H (.tup ds) v) (e : keysOf ds = some ks) : ∃ b, v = .ref b ∧ H b = some (.tup (ks.map kV)) := by
  rcases h with h | ⟨o, a, ev, e, h⟩
  · unfold rep at h
    obtain ⟨a, vs, h1, h2, h3⟩ := h
    have := keysOf_v h3 e
    subst this
    exact ⟨a, h1, s _ _ h2⟩
  · cases o <;> cases e
def gIx : D → D → Option R
  | .dT ks ds, .tup kds => (keysOf kds).bind fun k => (lookD ks ds k).map .imm
  | .lst xs, .int i => (atI xs i).map .imm
  | .tup xs, .int i => (atI xs i).map .imm
  | .scr xs, .int i => (atI xs i).map .imm
  | .str z, .int i => if z.length ≤ 16777216 then (atI z.cps.toList i).map (fun c => .imm (.str ⟨#[c]⟩)) else none
  | .dK ks ds, k => (keyOf k).bind fun k => (lookD ks ds k).map .imm
  | _, _ => none
def rIxD : R2 := fun x y H Q => ∃ a v, x = .ref a ∧ DGet H a y (some v) ∧ Q v H
theorem ix_dict {X : Cx} (hu : X.A.units + 1 < cLine) : IxR X rIxD := by
  intro value slice pins s σ H x y v u Q I rx ry h hs
  obtain ⟨a, z, rfl, g, q⟩ := h
  cases rx
  exact PyProof.Rows.tail_any (dict_typeIs I g) PySem.F.slot_dict_getitem.lookup (d_getItem hu I g ry fun w' s3 I3 rw' => ⟨z, H, I3, rw', q⟩) hs
def rIxAll (K : PySem.W.Frag) : R2 := fun x y H Q => rIx K x y H Q ∨ rIxD x y H Q
theorem ix_all {X : Cx} {M : Gm} (hK : X.K = M.K) (hu : X.A.units + 1 < cLine) : IxR X (rIxAll M.K) := by rw [← hK]; exact ix_seq.or (ix_dict hu)
theorem od_ix {M : Gm} : OpD M (rIxAll M.K) gIx := by
  intro c F H σ δ x y dx dy z Q ok px py e q
  unfold gIx at e
  split at e
  · rename_i ks ds kds
    obtain ⟨kk, e1, e2⟩ := Option.bind_eq_some_iff.mp e
    obtain ⟨d, e3, rfl⟩ := Option.map_eq_some_iff.mp e2
    obtain ⟨a, kvs, rfl, h2, h3, h4⟩ := prep_dT ok.same px
    obtain ⟨b, rfl, hb⟩ := prep_tupK ok.same py e1
    subst h3
    obtain ⟨v, k1, k2⟩ := (lookD_val kk h4).1 d e3
    refine .inr ⟨a, v, rfl, ?_, q _ F H (Same.refl _) ok k2⟩
    rw [← k1]
    exact DGet.t h2 hb
  · rename_i xs i
    obtain ⟨d, e1, rfl⟩ := Option.map_eq_some_iff.mp e
    obtain ⟨a, vs, rfl, h2, h3⟩ := prep_lst ok.same px
    obtain ⟨v, k1, k2⟩ := atI_reps h3 e1
    exact .inl (.inl ⟨a, vs, i, v, rfl, prep_int py, SqL.of h2, k1, q _ F H (Same.refl _) ok k2⟩)
  · rename_i xs i
    obtain ⟨d, e1, rfl⟩ := Option.map_eq_some_iff.mp e
    obtain ⟨a, vs, rfl, h2, h3⟩ := prep_tup ok.same px
    obtain ⟨v, k1, k2⟩ := atI_reps h3 e1
    exact .inl (.inr (.inl ⟨a, vs, i, v, rfl, prep_int py, h2, k1, q _ F H (Same.refl _) ok k2⟩))
  · rename_i xs i
    obtain ⟨d, e1, rfl⟩ := Option.map_eq_some_iff.mp e
    obtain ⟨a, vs, rfl, h2, h3⟩ := prep_scr ok.same px
    obtain ⟨v, k1, k2⟩ := atI_reps h3 e1
    exact .inl (.inl ⟨a, vs, i, v, rfl, prep_int py, h2, k1, q _ F H (Same.refl _) ok k2⟩)
  · rename_i zz i
    split at e
    · rename_i hl
      obtain ⟨cc, e1, rfl⟩ := Option.map_eq_some_iff.mp e
      exact .inl (.inr (.inr ⟨zz, i, cc, prep_str px, prep_int py, by rw [sizeLine_eq]; exact hl, e1, q _ F H (Same.refl _) ok rr_str⟩))
    · cases e
  · rename_i ks ds k
    obtain ⟨kk, e1, e2⟩ := Option.bind_eq_some_iff.mp e
    obtain ⟨d, e3, rfl⟩ := Option.map_eq_some_iff.mp e2
    obtain ⟨a, kvs, rfl, h2, h3, h4⟩ := prep_dK ok.same px
    subst h3
    obtain ⟨v, k1, k2⟩ := (lookD_val kk h4).1 d e3
    refine .inr ⟨a, v, rfl, ?_, q _ F H (Same.refl _) ok k2⟩
    rw [keyOf_v py e1, ← k1]
    exact DGet.k h2
  · cases e
/-! ### in -/
def flatD : D → Bool
  | .non => true
  | .bl _ => true
  | .int _ => true
  | .str _ => true
  | _ => false
def eqFl : D → D → Bool
  | .non, .non => true
  | .bl a, .bl b => a == b
  | .bl a, .int b => (if a then 1 else 0) == b
  | .int a, .bl b => a == (if b then 1 else 0)
  | .int a, .int b => a == b
  | .str a, .str b => a == b
  | _, _ => false
def inD (x : D) (xs : List D) : Bool := xs.any fun y => eqFl y x
def gIn : D → D → Option R
  | x, .lst ys => if flatD x && ys.all flatD then some (.imm (.bl (inD x ys))) else none
  | x, .tup ys => if flatD x && ys.all flatD then some (.imm (.bl (inD x ys))) else none
  | x, .dK ks ds => (keyOf x).map fun k => .imm (.bl (lookD ks ds k).isSome)
  | _, _ => none
def gNotIn : D → D → Option R
  | x, .lst ys => if flatD x && ys.all flatD then some (.imm (.bl (!inD x ys))) else none
  | x, .tup ys => if flatD x && ys.all flatD then some (.imm (.bl (!inD x ys))) else none
  | x, .dK ks ds => (keyOf x).map fun k => .imm (.bl (!(lookD ks ds k).isSome))
  | _, _ => none
def rInD (neg : Bool) : R2 := fun y x H Q => ∃ a o, x = .ref a ∧ DGet H a y o ∧ Q (.bl (if neg then !o.isSome else o.isSome)) H
theorem op_inD {X : Cx} (hu : X.A.units + 1 < cLine) : OpR X (compareOp .In) (rInD false) := by
  intro pins s σ H y x iv u Q I ry rx h
  obtain ⟨a, o, rfl, g, q⟩ := h
  obtain rfl : u = Value.ref a := rx
  exact d_in hu I g ry fun s3 I3 => ⟨.bl o.isSome, H, I3, rfl, q⟩
theorem op_notInD {X : Cx} (hu : X.A.units + 1 < cLine) : OpR X (compareOp .NotIn) (rInD true) := by
  intro pins s σ H y x iv u Q I ry rx h
  obtain ⟨a, o, rfl, g, q⟩ := h
  obtain rfl : u = Value.ref a := rx
  exact d_notIn hu I g ry fun s3 I3 => ⟨.bl (!o.isSome), H, I3, rfl, q⟩
def rInAll (K : PySem.W.Frag) (neg : Bool) : R2 := fun x y H Q => rIn K neg x y H Q ∨ rInD neg x y H Q
theorem op_inAll {X : Cx} {M : Gm} (hK : X.K = M.K) (hu : X.A.units + 1 < cLine) : OpR X (compareOp .In) (rInAll M.K false) := by rw [← hK]; exact op_in_seq.or (op_inD hu)
theorem op_notInAll {X : Cx} {M : Gm} (hK : X.K = M.K) (hu : X.A.units + 1 < cLine) : OpR X (compareOp .NotIn) (rInAll M.K true) := by rw [← hK]; exact op_notIn_seq.or (op_notInD hu)
def flV : D → V
  | .non => .non
  | .bl b => .bl b
  | .int i => .int i
  | .str x => .str x
  | _ => .non
theorem flat_v {M : Gm} {F : Hp} {d : D} {v : V} (f : flatD d = true) (h : rep M F d v) : v = flV d ∧ flatV v = true := by
  cases d <;> simp [flatD] at f <;> unfold rep at h <;> subst h <;> exact ⟨rfl, rfl⟩
theorem flats_v {M : Gm} {F : Hp} : ∀ {ds : List D} {vs : List V}, ds.all flatD = true → reps M F ds vs → vs = ds.map flV ∧ vs.all flatV = true
  | [], vs, _, h => by unfold reps at h; subst h; exact ⟨rfl, rfl⟩
  | d :: ds, vs, f, h => by
    unfold reps at h
    obtain ⟨v, r, rfl, h2, h3⟩ := h
    rw [List.all_cons, Bool.and_eq_true] at f
    obtain ⟨e1, e2⟩ := flat_v f.1 h2
    obtain ⟨e3, e4⟩ := flats_v f.2 h3
    exact ⟨by rw [e1, e3]; rfl, by rw [List.all_cons, e2, e4]; rfl⟩
theorem eqFl_v {d e : D} (f : flatD d = true) (f' : flatD e = true) : eqV (flV d) (flV e) = eqFl d e := by
  cases d <;> simp [flatD] at f <;> cases e <;> simp [flatD] at f' <;> rfl
theorem inD_v {x : D} : ∀ {ds : List D}, flatD x = true → ds.all flatD = true → inV (flV x) (ds.map flV) = inD x ds
  | [], _, _ => rfl
  | d :: ds, f, f' => by
    rw [List.all_cons, Bool.and_eq_true] at f'
    have ih := inD_v f f'.2
    unfold inV inD at ih ⊢
    rw [List.map_cons, List.any_cons, List.any_cons, eqFl_v f'.1 f, ih]
theorem flat_p {M : Gm} {F H : Hp} {d : D} {v : V} (f : flatD d = true) (h : prep M F H d v) : v = flV d ∧ flatV v = true := by
  rcases h with h | ⟨o, a, _, rfl, _⟩
  · exact flat_v f h
  · cases o <;> cases f
theorem od_in {M : Gm} (neg : Bool) {g : D → D → Option R} (hg : g = if neg then gNotIn else gIn) : OpD M (rInAll M.K neg) g := by
  intro c F H σ δ x y dx dy z Q ok px py e q
  have seq : ∀ {ys : List D} {vs : List V} {a : Addr}, y = .ref a → (SqL M.K H a vs ∨ SqT M.K H a vs) → reps M F ys vs → (flatD dx && ys.all flatD) = true → z = .imm (.bl (if neg then !inD dx ys else inD dx ys)) → rInAll M.K neg x y H Q := by
    intro ys vs a e1 e2 e3 e4 e5
    rw [Bool.and_eq_true] at e4
    obtain ⟨f1, f2⟩ := flat_p e4.1 px
    obtain ⟨f3, f4⟩ := flats_v e4.2 e3
    refine .inl ⟨a, vs, e1, e2, f2, f4, ?_⟩
    rw [f1, f3, inD_v e4.1 e4.2]
    rw [e5] at q
    exact q _ F H (Same.refl _) ok rr_bl
  have dict : ∀ {ks : List Key} {ds : List D} {k : Key}, prep M F H (.dK ks ds) y → keyOf dx = some k → z = .imm (.bl (if neg then !(lookD ks ds k).isSome else (lookD ks ds k).isSome)) → rInAll M.K neg x y H Q := by
    intro ks ds k py e1 e2
    obtain ⟨a, kvs, rfl, h2, h3, h4⟩ := prep_dK ok.same py
    subst h3
    have lk := lookD_val k h4
    refine .inr ⟨a, valV kvs k, rfl, ?_, ?_⟩
    · rw [keyOf_v px e1]; exact DGet.k h2
    · rw [e2] at q
      have e : (valV kvs k).isSome = (lookD (kvs.map (·.1)) ds k).isSome := by
        cases l : lookD (kvs.map (·.1)) ds k with
        | none => rw [lk.2 l]; rfl
        | some d => obtain ⟨v, e, _⟩ := lk.1 d l; rw [e]; rfl
      rw [e]
      exact q _ F H (Same.refl _) ok rr_bl
  subst hg
  cases neg with
  | false =>
    have e : gIn dx dy = some z := e
    unfold gIn at e
    split at e
    · split at e
      · rename_i ys hf
        cases e
        obtain ⟨a, vs, h1, h2, h3⟩ := prep_lst ok.same py
        exact seq h1 (.inl (SqL.of h2)) h3 hf rfl
      · cases e
    · split at e
      · rename_i ys hf
        cases e
        obtain ⟨a, vs, h1, h2, h3⟩ := prep_tup ok.same py
        exact seq h1 (.inr h2) h3 hf rfl
      · cases e
    · obtain ⟨k, e1, e2⟩ := Option.map_eq_some_iff.mp e
      exact dict py e1 e2.symm
    · cases e
  | true =>
    have e : gNotIn dx dy = some z := e
    unfold gNotIn at e
    split at e
    · split at e
      · rename_i ys hf
        cases e
        obtain ⟨a, vs, h1, h2, h3⟩ := prep_lst ok.same py
        exact seq h1 (.inl (SqL.of h2)) h3 hf rfl
      · cases e
    · split at e
      · rename_i ys hf
        cases e
        obtain ⟨a, vs, h1, h2, h3⟩ := prep_tup ok.same py
        exact seq h1 (.inr h2) h3 hf rfl
      · cases e
    · obtain ⟨k, e1, e2⟩ := Option.map_eq_some_iff.mp e
      exact dict py e1 e2.symm
    · cases e
end
end TS

set_option maxRecDepth 100000
set_option maxHeartbeats 4000000
/-! TS4: tests; arguments; calls of built-ins; displays; slices; own calls; fields; instances. -/
namespace TS
open PySem L2
noncomputable section

/-! ### readings -/
abbrev RE (M : Gm) (W : WX) (t : TE) (f : FE) : Prop := ∀ (c : Cn M) F H σ δ Q, Ok c F H σ δ → Post c W F σ (ρR c σ) (f δ) Q → t σ H Q
def fTst (f : FE) : FT := fun δ => (f δ).bind fun r δ => match r with
  | .imm (.bl b) => .ok b δ
  | _ => .bad
section
variable {M : Gm} {c : Cn M} {W : WX} {X : Cx} {e a b : Expr} {pos : Pos}
theorem tst_of {t : TE} {f : FE} (h : RE M W t f) : ∀ (c : Cn M) F H σ δ Q, Ok c F H σ δ → Post c W F σ ρT (fTst f δ) Q → tTest t σ H Q := fun c F H σ δ Q ok post =>
  h c F H σ δ _ ok (Post.bind post fun r δ1 v F1 H1 _ s ok1 rr post => by
    split at post
    · rename_i b0 _
      have e : v = .bl b0 := by
        have z : rep M F1 (.bl b0) v := rr
        unfold rep at z; exact z
      subst e
      exact ⟨b0, rfl, post.ok ok1 rfl⟩
    · exact post.elim)
theorem dt_val {f : FE} (h : DE M W X e f) (he : ∀ whole, isTrue e X.env whole = (do let v ← whole; standAt e.pos; holding [v] (truthy v)) := by intro _; rfl) : DT M W X e (fTst f) := by
  obtain ⟨t, p, h⟩ := h
  exact ⟨_, pt_val p he, tst_of h⟩
theorem dt_op {r : R2} {g : D → D → Option R} {fa fb : FD} (mk : ∀ {ta tb : TE}, PE X a ta → PE X b tb → PT X e (tTest (tOp r ta tb))) (hd : OpD M r g) (ha : DI M W X a fa) (hb : DP M W X b fb) : DT M W X e (fTst (fBin g fa fb)) := by
  obtain ⟨ta, pa, ha⟩ := ha
  obtain ⟨tb, pb, hb⟩ := hb
  refine ⟨_, mk pa pb, tst_of fun c F H σ δ Q ok post => ha c F H σ δ _ ok (Post.bind post fun dx δ1 x F1 H1 _ s1 ok1 rx post => hb c F1 H1 σ δ1 _ ok1 (Post.bind post fun dy δ2 y F2 H2 _ s2 ok2 ry post => ?_))⟩
  exact bin_of hd ok2 (.inl (rep_mono s2 _ _ rx)) ry post
theorem dt_opV {i : Nat} {r : R2} {g : D → D → Option R} {fb : FD} (mk : ∀ {ta tb : TE}, PE X a ta → PE X b tb → PT X e (tTest (tOp r ta tb))) (hd : OpD M r g) (ha : PE X a (tVar i)) (hb : DP M W X b fb) : DT M W X e (fTst (fBinV g i fb)) := by
  obtain ⟨tb, pb, hb⟩ := hb
  refine ⟨_, mk ha pb, tst_of fun c F H σ δ Q ok post => ?_⟩
  unfold fBinV at post
  by_cases ht : there δ i = true
  · rw [if_pos ht] at post
    obtain ⟨v, e1⟩ := there_v ok ht
    refine ⟨v, e1, hb c F H σ δ _ ok (Post.bind post fun dy δ2 y F2 H2 _ s2 ok2 ry post => ?_)⟩
    exact vP_run ok2 e1 post fun dx _ px post => bin_of hd ok2 px ry post
  · rw [if_neg ht] at post
    exact post.elim
def fNot (f : FT) : FT := fun δ => (f δ).bind fun b δ => .ok (!b) δ
def fAnd (f g : FT) : FT := fun δ => (f δ).bind fun b δ => if b then g δ else .ok false δ
def fOr (f g : FT) : FT := fun δ => (f δ).bind fun b δ => if b then .ok true δ else g δ
theorem dt_not {f : FT} (h : DT M W X a f) : DT M W X (.UnaryOp .Not a pos) (fNot f) := by
  obtain ⟨t, p, h⟩ := h
  refine ⟨_, pt_not p, fun c F H σ δ Q ok post => h c F H σ δ _ ok (Post.bind post fun b δ1 k F1 H1 _ s ok1 e post => ?_)⟩
  cases (show b = k from e)
  exact post.ok ok1 rfl
theorem DW.pt {f : FT} (h : DW M W X e f) : DT M W X e f := by
  obtain ⟨t, p, h⟩ := h
  exact ⟨t, p.pt, h⟩
theorem dw_and1 {f : FT} (h : DT M W X a f) : DW M W X (.BoolOp .And [a] pos) f := by
  obtain ⟨t, p, h⟩ := h
  exact ⟨t, pw_and1 p, h⟩
theorem dw_or1 {f : FT} (h : DT M W X a f) : DW M W X (.BoolOp .Or [a] pos) f := by
  obtain ⟨t, p, h⟩ := h
  exact ⟨t, pw_or1 p, h⟩
theorem dw_and {f g : FT} {rest : List Expr} (h : DT M W X a f) (h' : DW M W X (.BoolOp .And (b :: rest) pos) g) : DW M W X (.BoolOp .And (a :: b :: rest) pos) (fAnd f g) := by
  obtain ⟨t, p, h⟩ := h
  obtain ⟨t', p', h'⟩ := h'
  refine ⟨_, pw_and p p', fun c F H σ δ Q ok post => h c F H σ δ _ ok (Post.bind post fun b δ1 k F1 H1 _ s ok1 e post => ?_)⟩
  cases (show b = k from e)
  cases b with
  | true => exact h' c F1 H1 σ δ1 Q ok1 post
  | false => exact post.ok ok1 rfl
theorem dw_or {f g : FT} {rest : List Expr} (h : DT M W X a f) (h' : DW M W X (.BoolOp .Or (b :: rest) pos) g) : DW M W X (.BoolOp .Or (a :: b :: rest) pos) (fOr f g) := by
  obtain ⟨t, p, h⟩ := h
  obtain ⟨t', p', h'⟩ := h'
  refine ⟨_, pw_or p p', fun c F H σ δ Q ok post => h c F H σ δ _ ok (Post.bind post fun b δ1 k F1 H1 _ s ok1 e post => ?_)⟩
  cases (show b = k from e)
  cases b with
  | false => exact h' c F1 H1 σ δ1 Q ok1 post
  | true => exact post.ok ok1 rfl
/-! .. as values -/
def fAndV (f : FD) (g : FE) : FE := fun δ => (f δ).bind fun d δ => match d with
  | .bl true => g δ
  | .bl false => .ok (.imm (.bl false)) δ
  | _ => .bad
def fOrV (f : FD) (g : FE) : FE := fun δ => (f δ).bind fun d δ => match d with
  | .bl true => .ok (.imm (.bl true)) δ
  | .bl false => g δ
  | _ => .bad
def fNotV (f : FD) : FD := fun δ => (f δ).bind fun d δ => match d with
  | .bl b => .ok (.bl (!b)) δ
  | _ => .bad
theorem de_one {op} {f : FE} (h : DE M W X a f) : DE M W X (.BoolOp op [a] pos) f := by
  obtain ⟨t, p, h⟩ := h
  exact ⟨t, pe_one p, h⟩
theorem de_and {f : FD} {g : FE} {rest : List Expr} (h : DI M W X a f) (h' : DE M W X (.BoolOp .And (b :: rest) pos) g) : DE M W X (.BoolOp .And (a :: b :: rest) pos) (fAndV f g) := by
  obtain ⟨t, p, h⟩ := h
  obtain ⟨t', p', h'⟩ := h'
  refine ⟨_, pe_and p p', fun c F H σ δ Q ok post => h c F H σ δ _ ok (Post.bind post fun d δ1 v F1 H1 _ s ok1 r post => ?_)⟩
  split at post
  · have e : v = .bl true := by unfold ρD rep at r; exact r
    subst e
    exact ⟨true, rfl, h' c F1 H1 σ δ1 Q ok1 post⟩
  · have e : v = .bl false := by unfold ρD rep at r; exact r
    subst e
    exact ⟨false, rfl, post.ok ok1 rr_bl⟩
  · exact post.elim
theorem de_or {f : FD} {g : FE} {rest : List Expr} (h : DI M W X a f) (h' : DE M W X (.BoolOp .Or (b :: rest) pos) g) : DE M W X (.BoolOp .Or (a :: b :: rest) pos) (fOrV f g) := by
  obtain ⟨t, p, h⟩ := h
  obtain ⟨t', p', h'⟩ := h'
  refine ⟨_, pe_or p p', fun c F H σ δ Q ok post => h c F H σ δ _ ok (Post.bind post fun d δ1 v F1 H1 _ s ok1 r post => ?_)⟩
  split at post
  · have e : v = .bl true := by unfold ρD rep at r; exact r
    subst e
    exact ⟨true, rfl, post.ok ok1 rr_bl⟩
  · have e : v = .bl false := by unfold ρD rep at r; exact r
    subst e
    exact ⟨false, rfl, h' c F1 H1 σ δ1 Q ok1 post⟩
  · exact post.elim
theorem di_not {f : FD} (h : DI M W X a f) : DI M W X (.UnaryOp .Not a pos) (fNotV f) := by
  obtain ⟨t, p, h⟩ := h
  refine ⟨_, pe_not p, fun c F H σ δ Q ok post => h c F H σ δ _ ok (Post.bind post fun d δ1 v F1 H1 _ s ok1 r post => ?_)⟩
  split at post
  · rename_i b0 _
    have e : v = .bl b0 := by unfold ρD rep at r; exact r
    subst e
    exact ⟨b0, rfl, post.ok ok1 (rep_bl' _)⟩
  · exact post.elim
def fIfE (f : FT) (g h : FE) : FE := fun δ => (f δ).bind fun b δ => if b then g δ else h δ
theorem de_if {f : FT} {g g' : FE} {t : Expr} (h : DT M W X t f) (ha : DE M W X a g) (hb : DE M W X b g') : DE M W X (.IfExp t a b pos) (fIfE f g g') := by
  obtain ⟨t, p, h⟩ := h
  obtain ⟨ta, pa, ha⟩ := ha
  obtain ⟨tb, pb, hb⟩ := hb
  refine ⟨_, pe_ifExp p pa pb, fun c F H σ δ Q ok post => h c F H σ δ _ ok (Post.bind post fun b δ1 k F1 H1 _ s ok1 e post => ?_)⟩
  cases (show b = k from e)
  cases b with
  | true => exact ha c F1 H1 σ δ1 Q ok1 post
  | false => exact hb c F1 H1 σ δ1 Q ok1 post
end

/-! ### arguments -/
def aNil : FA := fun δ => .ok [] δ
def aCons (f : FD) (g : FA) : FA := fun δ => (f δ).bind fun d δ1 => (g δ1).bind fun ds δ2 => .ok (d :: ds) δ2
def aOne (f : FD) : FA := fun δ => (f δ).bind fun d δ1 => .ok [d] δ1
section
variable {M : Gm} {c : Cn M} {W : WX} {X : Cx} {e : Expr} {es : List Expr}
theorem da_nil : DA M W X [] aNil := ⟨_, pa_nil, fun c F H σ δ Q ok post => post.ok ok reps_nil⟩
theorem da_cons {f : FD} {g : FA} (h : DI M W X e f) (h' : DA M W X es g) (hs : starEach (e :: es) X.env = (false, eval e X.env) :: starEach es X.env := by rfl) : DA M W X (e :: es) (aCons f g) := by
  obtain ⟨t, p, h⟩ := h
  obtain ⟨t', p', h'⟩ := h'
  exact ⟨_, pa_cons p p' hs, fun c F H σ δ Q ok post => h c F H σ δ _ ok (Post.bind post fun d δ1 v F1 H1 _ s ok1 r post => h' c F1 H1 σ δ1 _ ok1 (Post.bind post fun ds δ2 vs F2 H2 _ s2 ok2 rs post => post.ok ok2 (reps_cons (rep_mono s2 _ _ r) rs)))⟩
theorem reps_paired {F H : Hp} : ∀ {ds : List D} {vs : List V}, reps M F ds vs → Paired (prep M F H) ds vs
  | [], vs, h => by unfold reps at h; subst h; exact .nil
  | d :: ds, vs, h => by
    unfold reps at h
    obtain ⟨v, r, rfl, h2, h3⟩ := h
    exact .cons (.inl h2) (reps_paired h3)
theorem DA.b {f : FA} (h : DA M W X es f) : DB M W X es f := by
  obtain ⟨t, p, h⟩ := h
  refine ⟨t, p, fun c F H σ δ Q ok post => h c F H σ δ Q ok ?_⟩
  cases q : f δ with
  | ok d δ1 => rw [q] at post; exact fun v F' H' s ok' r => post v F' H' s ok' (reps_paired r)
  | exc x δ1 => rw [q] at post; exact post
  | bad => rw [q] at post; exact post
theorem db_one {f : FD} (h : DP M W X e f) (hs : starEach (e :: []) X.env = (false, eval e X.env) :: starEach [] X.env := by rfl) : DB M W X [e] (aOne f) := by
  obtain ⟨t, p, h⟩ := h
  exact ⟨_, pa_cons p pa_nil hs, fun c F H σ δ Q ok post => h c F H σ δ _ ok (Post.bind post fun d δ1 v F1 H1 _ s ok1 r post => post.ok ok1 (.cons r .nil))⟩
end
/-! ### built-ins by values -/
abbrev RC := List V → Hp → VK → Prop
def CallD (M : Gm) (r : RC) (g : List D → Option R) : Prop := ∀ (c : Cn M) (F H : Hp) (σ : St) (δ : Sl) (xs : List V) (ds : List D) (z : R) (Q : VK), Ok c F H σ δ → Paired (prep M F H) ds xs → g ds = some z →
  (∀ v F' H', Same F F' → Ok c F' H' σ δ → repR c F' H' σ δ z v → Q v H') → r xs H Q
def fCal (g : List D → Option R) (fa : FA) : FE := fun δ => (fa δ).bind fun ds δ1 => match g ds with
  | some z => .ok z δ1
  | none => .bad
section
variable {M : Gm} {c : Cn M} {W : WX} {X : Cx} {e : Expr} {es : List Expr} {r : RC} {g : List D → Option R} {fa : FA}
theorem d_call (mk : ∀ {t : TA}, PA X es t → PE X e (tCB r t)) (hd : CallD M r g) (ha : DB M W X es fa) : DE M W X e (fCal g fa) := by
  obtain ⟨t, p, h⟩ := ha
  refine ⟨_, mk p, fun c F H σ δ Q ok post => h c F H σ δ _ ok (Post.bind post fun ds δ1 vs F1 H1 _ s ok1 rs post => ?_)⟩
  cases q : g ds with
  | none => rw [q] at post; exact post.elim
  | some z => rw [q] at post; exact hd c F1 H1 σ δ1 vs ds z Q ok1 rs q post
theorem CallR.or {f : Value} {r r' : RC} (h : CallR X f r) (h' : CallR X f r') : CallR X f (fun xs H Q => r xs H Q ∨ r' xs H Q) := by
  intro pins s σ H xs us Q I rs q
  rcases q with q | q
  · exact h pins s σ H xs us Q I rs q
  · exact h' pins s σ H xs us Q I rs q
def gcOr (g g' : List D → Option R) : List D → Option R := fun ds => match g ds with
  | some z => some z
  | none => g' ds
theorem CallD.or {r r' : RC} {g g' : List D → Option R} (h : CallD M r g) (h' : CallD M r' g') : CallD M (fun xs H Q => r xs H Q ∨ r' xs H Q) (gcOr g g') := by
  intro c F H σ δ xs ds z Q ok pxs e q
  unfold gcOr at e
  cases e1 : g ds with
  | some w => rw [e1] at e; cases e; exact .inl (h c F H σ δ xs ds _ Q ok pxs e1 q)
  | none => rw [e1] at e; exact .inr (h' c F H σ δ xs ds z Q ok pxs e q)
theorem p1 {F H : Hp} {d : D} {xs : List V} (h : Paired (prep M F H) [d] xs) : ∃ x, xs = [x] ∧ prep M F H d x := by
  cases h with
  | cons a b => cases b; exact ⟨_, rfl, a⟩
theorem p2 {F H : Hp} {d d' : D} {xs : List V} (h : Paired (prep M F H) [d, d'] xs) : ∃ x y, xs = [x, y] ∧ prep M F H d x ∧ prep M F H d' y := by
  cases h with
  | cons a b =>
    cases b with
    | cons a' b' => cases b'; exact ⟨_, _, rfl, a, a'⟩
/-! len -/
def lenD : D → Option Nat
  | .lst xs => some xs.length
  | .tup xs => some xs.length
  | .scr xs => some xs.length
  | .str z => if z.length ≤ 16777216 then some z.length else none
  | .dK ks ds => some ds.length
  | _ => none
def gLen : List D → Option R
  | [d] => (lenD d).map fun n => .imm (.int n)
  | _ => none
def rLenAll (K : PySem.W.Frag) : RC := fun xs H Q => (∃ x n, xs = [x] ∧ LenV K x H n ∧ Q (.int n) H) ∨ ∃ a kvs, xs = [V.ref a] ∧ H a = some (.dK kvs) ∧ Q (.int kvs.length) H
theorem call_lenAll (hK : X.K = M.K) : CallR X (.builtin "len") (rLenAll M.K) := by rw [← hK]; exact CallR.or call_len call_lenD
theorem cd_len : CallD M (rLenAll M.K) gLen := by
  intro c F H σ δ xs ds z Q ok pxs e q
  unfold gLen at e
  split at e
  · rename_i d
    obtain ⟨n, e1, rfl⟩ := Option.map_eq_some_iff.mp e
    obtain ⟨x, rfl, px⟩ := p1 pxs
    have fin := q (.int n) F H (Same.refl _) ok rr_int
    unfold lenD at e1
    split at e1
    · cases e1
      obtain ⟨a, vs, rfl, h2, h3⟩ := prep_lst ok.same px
      exact .inl ⟨_, _, rfl, .inl ⟨vs, SqL.of h2, (reps_length h3).symm⟩, fin⟩
    · cases e1
      obtain ⟨a, vs, rfl, h2, h3⟩ := prep_tup ok.same px
      exact .inl ⟨_, _, rfl, .inr ⟨vs, h2, (reps_length h3).symm⟩, fin⟩
    · cases e1
      obtain ⟨a, vs, rfl, h2, h3⟩ := prep_scr ok.same px
      exact .inl ⟨_, _, rfl, .inl ⟨vs, h2, (reps_length h3).symm⟩, fin⟩
    · split at e1
      · rename_i hl
        cases e1
        have ex := prep_str px
        subst ex
        exact .inl ⟨_, _, rfl, ⟨by rw [sizeLine_eq]; exact hl, rfl⟩, fin⟩
      · cases e1
    · cases e1
      obtain ⟨a, kvs, rfl, h2, h3, h4⟩ := prep_dK ok.same px
      refine .inr ⟨a, kvs, rfl, h2, ?_⟩
      have := reps_length h4
      rw [List.length_map] at this
      rw [this]; exact fin
    · cases e1
  · cases e
/-! abs, max, min, int, str, repr of ints -/
def gAbs : List D → Option R
  | [.int i] => some (.imm (.int (if i < 0 then -i else i)))
  | _ => none
theorem cd_abs : CallD M (fun xs H Q => ∃ i, xs = [.int i] ∧ Q (.int (if i < 0 then -i else i)) H) gAbs := by
  intro c F H σ δ xs ds z Q ok pxs e q
  unfold gAbs at e
  split at e
  · cases e
    obtain ⟨x, rfl, px⟩ := p1 pxs
    cases prep_int px
    exact ⟨_, rfl, q _ F H (Same.refl _) ok rr_int⟩
  · cases e
def gMax2 : List D → Option R
  | [.int i, .int j] => some (.imm (.int (if j > i then j else i)))
  | _ => none
def gMin2 : List D → Option R
  | [.int i, .int j] => some (.imm (.int (if j < i then j else i)))
  | _ => none
theorem cd_max2 : CallD M (fun xs H Q => ∃ i j, xs = [.int i, .int j] ∧ Q (.int (if j > i then j else i)) H) gMax2 := by
  intro c F H σ δ xs ds z Q ok pxs e q
  unfold gMax2 at e
  split at e
  · cases e
    obtain ⟨x, y, rfl, px, py⟩ := p2 pxs
    cases prep_int px
    cases prep_int py
    exact ⟨_, _, rfl, q _ F H (Same.refl _) ok rr_int⟩
  · cases e
theorem cd_min2 : CallD M (fun xs H Q => ∃ i j, xs = [.int i, .int j] ∧ Q (.int (if j < i then j else i)) H) gMin2 := by
  intro c F H σ δ xs ds z Q ok pxs e q
  unfold gMin2 at e
  split at e
  · cases e
    obtain ⟨x, y, rfl, px, py⟩ := p2 pxs
    cases prep_int px
    cases prep_int py
    exact ⟨_, _, rfl, q _ F H (Same.refl _) ok rr_int⟩
  · cases e
def gInt : List D → Option R
  | [.int i] => some (.imm (.int i))
  | [.bl k] => some (.imm (.int (if k then 1 else 0)))
  | _ => none
theorem cd_int : CallD M (fun xs H Q => (∃ i, xs = [.int i] ∧ Q (.int i) H) ∨ ∃ k, xs = [.bl k] ∧ Q (.int (if k then 1 else 0)) H) gInt := by
  intro c F H σ δ xs ds z Q ok pxs e q
  unfold gInt at e
  split at e
  · cases e
    obtain ⟨x, rfl, px⟩ := p1 pxs
    cases prep_int px
    exact .inl ⟨_, rfl, q _ F H (Same.refl _) ok rr_int⟩
  · cases e
    obtain ⟨x, rfl, px⟩ := p1 pxs
    cases prep_bl px
    exact .inr ⟨_, rfl, q _ F H (Same.refl _) ok rr_int⟩
  · cases e
def gStrI : List D → Option R
  | [.int i] => if i.natAbs.log2 < 1920 then some (.imm (.str (toString i))) else none
  | _ => none
theorem cd_strI : CallD M (fun xs H Q => ∃ i, xs = [.int i] ∧ i.natAbs.log2 < 1920 ∧ Q (.str (toString i)) H) gStrI := by
  intro c F H σ δ xs ds z Q ok pxs e q
  unfold gStrI at e
  split at e
  · split at e
    · rename_i hl
      cases e
      obtain ⟨x, rfl, px⟩ := p1 pxs
      cases prep_int px
      exact ⟨_, rfl, hl, q _ F H (Same.refl _) ok rr_str⟩
    · cases e
  · cases e
/-! list(x), tuple(x) -/
def gList : List D → Option R
  | [.lst xs] => some (.own (.l xs))
  | [.tup xs] => some (.own (.l xs))
  | _ => none
theorem cd_list {K : PySem.W.Frag} (hK : K = M.K) : CallD M (fun xs H Q => ∃ p ys, xs = [.ref p] ∧ (SqL K H p ys ∨ SqT K H p ys) ∧ ∀ l, H l = none → Q (.ref l) (upd H l (.lst ys))) gList := by
  intro c F H σ δ xs ds z Q ok pxs e q
  subst hK
  unfold gList at e
  split at e
  · cases e
    obtain ⟨x, rfl, px⟩ := p1 pxs
    obtain ⟨a, vs, rfl, h2, h3⟩ := prep_lst ok.same px
    refine ⟨a, vs, rfl, .inl (SqL.of h2), fun p hp => ?_⟩
    obtain ⟨o1, o2⟩ := new_list ok hp h3
    exact q _ F _ (Same.refl _) o1 o2
  · cases e
    obtain ⟨x, rfl, px⟩ := p1 pxs
    obtain ⟨a, vs, rfl, h2, h3⟩ := prep_tup ok.same px
    refine ⟨a, vs, rfl, .inr h2, fun p hp => ?_⟩
    obtain ⟨o1, o2⟩ := new_list ok hp h3
    exact q _ F _ (Same.refl _) o1 o2
  · cases e
/-- a new tuple is frozen at once -/
theorem new_tup {F H : Hp} {σ : St} {δ : Sl} (ok : Ok c F H σ δ) {p : Addr} (hp : H p = none) {ds : List D} {vs : List V} (r : reps M F ds vs) : ∃ F', Same F F' ∧ Ok c F' (upd H p (.tup vs)) σ δ ∧ rep M F' (.tup ds) (.ref p) := by
  have ok1 : Ok c F (upd H p (.tup vs)) σ δ := ok.alloc hp
  have hF := ok.f hp
  have g : Same F (upd F p (.tup vs)) := fun b o e => by rw [upd_ne (ne_of_none e hF)]; exact e
  refine ⟨upd F p (.tup vs), g, ⟨fun b o e => ?_, ok.grow.trans g, fun b e1 e2 => ?_, ok1.kept, ok1.ioh, ok1.tb.frz upd_same rfl, ok.len, fun i r e => ?_, ok.dist⟩, ?_⟩
  · by_cases q : b = p
    · subst q; rw [upd_same] at e ⊢; exact e
    · rw [upd_ne q] at e ⊢; exact ok.same b o e
  · have q : b ≠ p := fun z => e1 (z ▸ ok.h0 hp)
    rw [upd_ne q]; exact ok.nofz b e1 e2
  · obtain ⟨v, e1, e2⟩ := ok1.slot i r e
    refine ⟨v, e1, ?_⟩
    cases r with
    | imm d => exact rep_mono g _ _ e2
    | own o =>
      obtain ⟨a', rfl, k1, k2, k3⟩ := e2
      have q : a' ≠ p := fun z => ok.fresh hp i _ e rfl (by rw [e1, z])
      exact ⟨a', rfl, by rw [upd_ne q]; exact k1, k2, obAt_mono g rfl k3⟩
    | brw o =>
      obtain ⟨a', rfl, k1, k2, k3⟩ := e2
      have q : a' ≠ p := fun z => ok.fresh hp i _ e rfl (by rw [e1, z])
      exact ⟨a', rfl, by rw [upd_ne q]; exact k1, k2, obAt_mono g rfl k3⟩
  · unfold rep
    exact ⟨p, vs, rfl, upd_same, reps_mono g _ _ r⟩
def gTuple : List D → Option R
  | [.lst xs] => some (.imm (.tup xs))
  | [.tup xs] => some (.imm (.tup xs))
  | _ => none
theorem cd_tuple {K : PySem.W.Frag} (hK : K = M.K) : CallD M (fun xs H Q => ∃ p ys, xs = [.ref p] ∧ ((SqL K H p ys ∧ ∀ l, H l = none → Q (.ref l) (upd H l (.tup ys))) ∨ (SqT K H p ys ∧ Q (.ref p) H))) gTuple := by
  intro c F H σ δ xs ds z Q ok pxs e q
  subst hK
  unfold gTuple at e
  split at e
  · cases e
    obtain ⟨x, rfl, px⟩ := p1 pxs
    obtain ⟨a, vs, rfl, h2, h3⟩ := prep_lst ok.same px
    refine ⟨a, vs, rfl, .inl ⟨SqL.of h2, fun p hp => ?_⟩⟩
    obtain ⟨F', g, o1, o2⟩ := new_tup ok hp h3
    exact q _ F' _ g o1 o2
  · cases e
    obtain ⟨x, rfl, px⟩ := p1 pxs
    obtain ⟨a, vs, rfl, h2, h3⟩ := prep_tup ok.same px
    refine ⟨a, vs, rfl, .inr ⟨h2, ?_⟩⟩
    rcases px with px | ⟨o, _, _, eo, _⟩
    · exact q _ F H (Same.refl _) ok px
    · cases o <;> cases eo
  · cases e
/-! sums and the like over lists of ints, all, any over lists of bools -/
def intsD : List D → Option (List Int)
  | [] => some []
  | .int i :: r => (intsD r).map (i :: ·)
  | _ :: _ => none
def blsOf : List D → Option (List Bool)
  | [] => some []
  | .bl i :: r => (blsOf r).map (i :: ·)
  | _ :: _ => none
theorem intsD_v {M : Gm} {F : Hp} : ∀ {ds : List D} {vs : List V} {ns : List Int}, reps M F ds vs → intsD ds = some ns → vs = ns.map V.int
  | [], vs, ns, h, e => by unfold reps at h; unfold intsD at e; cases e; subst h; rfl
  | d :: ds, vs, ns, h, e => by
    unfold reps at h
    obtain ⟨v, r, rfl, h2, h3⟩ := h
    cases d <;> simp [intsD] at e
    obtain ⟨ms, e1, rfl⟩ := e
    unfold rep at h2
    subst h2
    rw [intsD_v h3 e1]; rfl
theorem blsOf_v {M : Gm} {F : Hp} : ∀ {ds : List D} {vs : List V} {ns : List Bool}, reps M F ds vs → blsOf ds = some ns → vs = ns.map V.bl
  | [], vs, ns, h, e => by unfold reps at h; unfold blsOf at e; cases e; subst h; rfl
  | d :: ds, vs, ns, h, e => by
    unfold reps at h
    obtain ⟨v, r, rfl, h2, h3⟩ := h
    cases d <;> simp [blsOf] at e
    obtain ⟨ms, e1, rfl⟩ := e
    unfold rep at h2
    subst h2
    rw [blsOf_v h3 e1]; rfl
def maxL : List Int → Int
  | [] => 0
  | [x] => x
  | x :: r => max x (maxL r)
def minL : List Int → Int
  | [] => 0
  | [x] => x
  | x :: r => min x (minL r)
theorem maxL_ok : ∀ {ns : List Int}, 0 < ns.length → maxL ns ∈ ns ∧ ∀ y ∈ ns, y ≤ maxL ns
  | [], h => by simp at h
  | [x], _ => by simp [maxL]
  | x :: y :: r, _ => by
    obtain ⟨h1, h2⟩ := maxL_ok (ns := y :: r) (by simp)
    unfold maxL
    constructor
    · rcases Int.le_total x (maxL (y :: r)) with h | h
      · rw [Int.max_eq_right h]; exact List.mem_cons_of_mem _ h1
      · rw [Int.max_eq_left h]; exact List.mem_cons_self
    · intro z hz
      rcases List.mem_cons.mp hz with rfl | hz
      · exact Int.le_max_left _ _
      · exact Int.le_trans (h2 z hz) (Int.le_max_right _ _)
theorem minL_ok : ∀ {ns : List Int}, 0 < ns.length → minL ns ∈ ns ∧ ∀ y ∈ ns, minL ns ≤ y
  | [], h => by simp at h
  | [x], _ => by simp [minL]
  | x :: y :: r, _ => by
    obtain ⟨h1, h2⟩ := minL_ok (ns := y :: r) (by simp)
    unfold minL
    constructor
    · rcases Int.le_total x (minL (y :: r)) with h | h
      · rw [Int.min_eq_left h]; exact List.mem_cons_self
      · rw [Int.min_eq_right h]; exact List.mem_cons_of_mem _ h1
    · intro z hz
      rcases List.mem_cons.mp hz with rfl | hz
      · exact Int.min_le_left _ _
      · exact Int.le_trans (Int.min_le_right _ _) (h2 z hz)
def gSum : List D → Option R
  | [.lst xs] => (intsD xs).map fun ns => .imm (.int ns.sum)
  | _ => none
def gMaxL : List D → Option R
  | [.lst xs] => (intsD xs).bind fun ns => if 0 < ns.length then some (.imm (.int (maxL ns))) else none
  | _ => none
def gMinL : List D → Option R
  | [.lst xs] => (intsD xs).bind fun ns => if 0 < ns.length then some (.imm (.int (minL ns))) else none
  | _ => none
def gAll : List D → Option R
  | [.lst xs] => (blsOf xs).map fun bs => .imm (.bl (bs.all id))
  | _ => none
def gAny : List D → Option R
  | [.lst xs] => (blsOf xs).map fun bs => .imm (.bl (bs.any id))
  | _ => none
theorem cd_sum {K : PySem.W.Frag} : CallD M (rSum K) gSum := by
  intro c F H σ δ xs ds z Q ok pxs e q
  unfold gSum at e
  split at e
  · obtain ⟨ns, e1, rfl⟩ := Option.map_eq_some_iff.mp e
    obtain ⟨x, rfl, px⟩ := p1 pxs
    obtain ⟨a, vs, rfl, h2, h3⟩ := prep_lst ok.same px
    have ev := intsD_v h3 e1
    subst ev
    exact ⟨a, ns, rfl, SqL.of h2, q _ F H (Same.refl _) ok rr_int⟩
  · cases e
theorem cd_maxL {K : PySem.W.Frag} : CallD M (rMax K) gMaxL := by
  intro c F H σ δ xs ds z Q ok pxs e q
  unfold gMaxL at e
  split at e
  · obtain ⟨ns, e1, e2⟩ := Option.bind_eq_some_iff.mp e
    split at e2
    · rename_i hl
      cases e2
      obtain ⟨x, rfl, px⟩ := p1 pxs
      obtain ⟨a, vs, rfl, h2, h3⟩ := prep_lst ok.same px
      have ev := intsD_v h3 e1
      subst ev
      refine ⟨a, ns, rfl, SqL.of h2, hl, fun m hm hy => ?_⟩
      obtain ⟨k1, k2⟩ := maxL_ok hl
      have em : m = maxL ns := Int.le_antisymm (k2 m hm) (hy _ k1)
      rw [em]
      exact q _ F H (Same.refl _) ok rr_int
    · cases e2
  · cases e
theorem cd_minL {K : PySem.W.Frag} : CallD M (rMin K) gMinL := by
  intro c F H σ δ xs ds z Q ok pxs e q
  unfold gMinL at e
  split at e
  · obtain ⟨ns, e1, e2⟩ := Option.bind_eq_some_iff.mp e
    split at e2
    · rename_i hl
      cases e2
      obtain ⟨x, rfl, px⟩ := p1 pxs
      obtain ⟨a, vs, rfl, h2, h3⟩ := prep_lst ok.same px
      have ev := intsD_v h3 e1
      subst ev
      refine ⟨a, ns, rfl, SqL.of h2, hl, fun m hm hy => ?_⟩
      obtain ⟨k1, k2⟩ := minL_ok hl
      have em : m = minL ns := Int.le_antisymm (hy _ k1) (k2 m hm)
      rw [em]
      exact q _ F H (Same.refl _) ok rr_int
    · cases e2
  · cases e
theorem cd_all {K : PySem.W.Frag} : CallD M (rAll K) gAll := by
  intro c F H σ δ xs ds z Q ok pxs e q
  unfold gAll at e
  split at e
  · obtain ⟨ns, e1, rfl⟩ := Option.map_eq_some_iff.mp e
    obtain ⟨x, rfl, px⟩ := p1 pxs
    obtain ⟨a, vs, rfl, h2, h3⟩ := prep_lst ok.same px
    have ev := blsOf_v h3 e1
    subst ev
    exact ⟨a, ns, rfl, SqL.of h2, q _ F H (Same.refl _) ok rr_bl⟩
  · cases e
theorem cd_any {K : PySem.W.Frag} : CallD M (rAny K) gAny := by
  intro c F H σ δ xs ds z Q ok pxs e q
  unfold gAny at e
  split at e
  · obtain ⟨ns, e1, rfl⟩ := Option.map_eq_some_iff.mp e
    obtain ⟨x, rfl, px⟩ := p1 pxs
    obtain ⟨a, vs, rfl, h2, h3⟩ := prep_lst ok.same px
    have ev := blsOf_v h3 e1
    subst ev
    exact ⟨a, ns, rfl, SqL.of h2, q _ F H (Same.refl _) ok rr_bl⟩
  · cases e
/-! divmod -/
def gDivmod : List D → Option R
  | [.int i, .int j] => if decide (0 < j ∧ j.natAbs.log2 < 9000) then some (.imm (.tup [.int (i / j), .int (i % j)])) else none
  | _ => none
end
end
end TS

set_option maxRecDepth 100000
set_option maxHeartbeats 4000000
/-! TS5: displays, slices, methods of lists, own calls, instances, fields. -/
namespace TS
open PySem L2
noncomputable section
/-! ### displays -/
def fLst (fa : FA) : FE := fun δ => (fa δ).bind fun ds δ => if ds.length ≤ 16777216 then .ok (.own (.l ds)) δ else .bad
def fTup (fa : FA) : FD := fun δ => (fa δ).bind fun ds δ => if ds.length ≤ 16777216 then .ok (.tup ds) δ else .bad
section
variable {M : Gm} {c : Cn M} {W : WX} {X : Cx} {es : List Expr} {pos : Pos} {fa : FA}
theorem de_lst (h : DA M W X es fa) : DE M W X (.List es pos) (fLst fa) := by
  obtain ⟨t, p, h⟩ := h
  refine ⟨_, pe_lst p, fun c F H σ δ Q ok post => h c F H σ δ _ ok (Post.bind post fun ds δ1 vs F1 H1 _ s ok1 rs post => ?_)⟩
  split at post
  · rename_i hl
    refine ⟨by rw [reps_length rs, sizeLine_eq]; exact hl, fun q hq => ?_⟩
    obtain ⟨o1, o2⟩ := new_list ok1 hq rs
    exact post.ok o1 o2
  · exact post.elim
theorem di_tup {x1} (h : DA M W X es fa) : DI M W X (.Tuple es x1 pos) (fTup fa) := by
  obtain ⟨t, p, h⟩ := h
  refine ⟨_, pe_tup p, fun c F H σ δ Q ok post => h c F H σ δ _ ok (Post.bind post fun ds δ1 vs F1 H1 _ s ok1 rs post => ?_)⟩
  split at post
  · rename_i hl
    refine ⟨by rw [reps_length rs, sizeLine_eq]; exact hl, fun q hq => ?_⟩
    obtain ⟨F', g, o1, o2⟩ := new_tup ok1 hq rs
    exact post _ F' _ g o1 o2
  · exact post.elim
theorem call_divmodP {X : Cx} : CallR X (.builtin "divmod") (fun xs H Q => ∃ i j, xs = [.int i, .int j] ∧ CDivP i j ∧ ∀ p, H p = none → Q (.ref p) (upd H p (.tup [.int (i / j), .int (i % j)]))) := call_divmodW
theorem cd_divmod : CallD M (fun xs H Q => ∃ i j, xs = [.int i, .int j] ∧ CDivP i j ∧ ∀ p, H p = none → Q (.ref p) (upd H p (.tup [.int (i / j), .int (i % j)]))) gDivmod := by
  intro c F H σ δ xs ds z Q ok pxs e q
  unfold gDivmod at e
  split at e
  · rename_i i j
    split at e
    · rename_i hc
      cases e
      obtain ⟨h1, h2⟩ := of_decide_eq_true hc
      obtain ⟨x, y, rfl, px, py⟩ := p2 pxs
      cases prep_int px
      cases prep_int py
      refine ⟨_, _, rfl, ⟨h1, PyProof.noPylong_of_log2 h2⟩, fun p hp => ?_⟩
      obtain ⟨F', g, o1, o2⟩ := new_tup ok hp (ds := [.int (i / j), .int (i % j)]) (reps_cons (rep_int' _) (reps_cons (rep_int' _) reps_nil))
      exact q _ F' _ g o1 o2
    · cases e
  · cases e
end
/-! ### slices -/
abbrev FO := Sl → Res (Option Int)
abbrev ρO : Hp → Hp → Sl → Option Int → Option Int → Prop := fun _ _ _ a b => a = b
def DO (M : Gm) (W : WX) (X : Cx) (e : Option Expr) (f : FO) : Prop := ∃ t, PO X e t ∧ ∀ (c : Cn M) F H σ δ Q, Ok c F H σ δ → Post c W F σ ρO (f δ) Q → t σ H Q
def oNone : FO := fun δ => .ok none δ
def oSome (f : FD) : FO := fun δ => (f δ).bind fun d δ => match d with
  | .int i => .ok (some i) δ
  | _ => .bad
def cutD (xs : List D) (lo hi : Option Int) : List D := (xs.drop (HT.sIx xs.length 0 lo)).take (HT.sIx xs.length xs.length hi - HT.sIx xs.length 0 lo)
def gSl : D → Option Int → Option Int → Option R
  | .lst xs, lo, hi => some (.own (.l (cutD xs lo hi)))
  | .tup xs, lo, hi => if HT.sIx xs.length 0 lo = 0 ∧ HT.sIx xs.length xs.length hi = xs.length then none else some (.imm (.tup (cutD xs lo hi)))
  | _, _, _ => none
def fSl (fe : FD) (fl fh : FO) : FE := fun δ => (fe δ).bind fun d δ => (fl δ).bind fun lo δ => (fh δ).bind fun hi δ => match gSl d lo hi with
  | some r => .ok r δ
  | none => .bad
def fSlV (i : Nat) (fl fh : FO) : FE := fun δ => if there δ i then (fl δ).bind fun lo δ => (fh δ).bind fun hi δ => (vP i δ).bind fun d δ => match gSl d lo hi with
  | some r => .ok r δ
  | none => .bad
  else .bad
section
variable {M : Gm} {c : Cn M} {W : WX} {X : Cx} {e : Expr} {lo hi : Option Expr} {pos p2 : Pos}
theorem do_none : DO M W X none oNone := ⟨_, po_none, fun c F H σ δ Q ok post => post.ok ok rfl⟩
theorem do_some {f : FD} (h : DI M W X e f) : DO M W X (some e) (oSome f) := by
  obtain ⟨t, p, h⟩ := h
  refine ⟨_, po_some p, fun c F H σ δ Q ok post => h c F H σ δ _ ok (Post.bind post fun d δ1 v F1 H1 _ s ok1 r post => ?_)⟩
  split at post
  · rename_i i _
    have ev : v = .int i := by unfold ρD rep at r; exact r
    exact ⟨i, ev, post.ok ok1 rfl⟩
  · exact post.elim
theorem sl_of (hK : X.K = M.K) {F H : Hp} {σ : St} {δ : Sl} {x : V} {d : D} {l u : Option Int} {Q : VK} (ok : Ok c F H σ δ) (px : prep M F H d x)
    (post : Post c W F σ (ρR c σ) (match gSl d l u with | some r => .ok r δ | none => .bad) Q) : rSlL X.K x l u H Q ∨ rSlT X.K x l u H Q := by
  unfold gSl at post
  split at post
  · rename_i r e
    split at e
    · cases e
      rename_i xs
      obtain ⟨a, vs, rfl, h2, h3⟩ := prep_lst ok.same px
      refine .inl ⟨a, vs, rfl, SqL.of h2, fun p hp => ?_⟩
      have : reps M F (cutD xs l u) (cutV vs l u) := by
        unfold cutD cutV
        rw [reps_length h3]
        exact reps_take _ (reps_drop _ h3)
      obtain ⟨o1, o2⟩ := new_list ok hp this
      exact post.ok o1 o2
    · split at e
      · cases e
      · rename_i xs hn
        cases e
        obtain ⟨a, vs, rfl, h2, h3⟩ := prep_tup ok.same px
        refine .inr ⟨a, vs, rfl, by rw [hK]; exact h2, by rw [reps_length h3]; exact hn, fun p hp => ?_⟩
        have : reps M F (cutD xs l u) (cutV vs l u) := by
          unfold cutD cutV
          rw [reps_length h3]
          exact reps_take _ (reps_drop _ h3)
        obtain ⟨F', g, o1, o2⟩ := new_tup ok hp this
        exact post _ F' _ g o1 o2
    · cases e
  · exact post.elim
theorem de_sl {fe : FD} {fl fh : FO} (h : DI M W X e fe) (hl : DO M W X lo fl) (hh : DO M W X hi fh) (hK : X.K = M.K := by rfl) : DE M W X (.Subscript e (.Slice lo hi none p2) pos) (fSl fe fl fh) := by
  obtain ⟨t, p, h⟩ := h
  obtain ⟨tl, pl, hl⟩ := hl
  obtain ⟨th, ph, hh⟩ := hh
  refine ⟨_, pe_slice (SlR.or sl_list sl_tup) p pl ph, fun c F H σ δ Q ok post => h c F H σ δ _ ok (Post.bind post fun d δ1 v F1 H1 _ s1 ok1 r post => hl c F1 H1 σ δ1 _ ok1 (Post.bind post fun l δ2 l' F2 H2 _ s2 ok2 el post => hh c F2 H2 σ δ2 _ ok2 (Post.bind post fun u δ3 u' F3 H3 _ s3 ok3 eu post => ?_)))⟩
  cases (show l = l' from el)
  cases (show u = u' from eu)
  exact sl_of hK ok3 (.inl (rep_mono (s2.trans s3) _ _ r)) post
theorem de_slV {i : Nat} {fl fh : FO} (h : PE X e (tVar i)) (hl : DO M W X lo fl) (hh : DO M W X hi fh) (hK : X.K = M.K := by rfl) : DE M W X (.Subscript e (.Slice lo hi none p2) pos) (fSlV i fl fh) := by
  obtain ⟨tl, pl, hl⟩ := hl
  obtain ⟨th, ph, hh⟩ := hh
  refine ⟨_, pe_slice (SlR.or sl_list sl_tup) h pl ph, fun c F H σ δ Q ok post => ?_⟩
  unfold fSlV at post
  by_cases ht : there δ i = true
  · rw [if_pos ht] at post
    obtain ⟨v, e1⟩ := there_v ok ht
    refine ⟨v, e1, hl c F H σ δ _ ok (Post.bind post fun l δ2 l' F2 H2 _ s2 ok2 el post => hh c F2 H2 σ δ2 _ ok2 (Post.bind post fun u δ3 u' F3 H3 _ s3 ok3 eu post => ?_))⟩
    cases (show l = l' from el)
    cases (show u = u' from eu)
    exact vP_run ok3 e1 post fun dx _ px post => sl_of hK ok3 px post
  · rw [if_neg ht] at post
    exact post.elim
/-! list(range(..)) -/
def rgD (a b : Int) : List D := (List.range (b - a).toNat).map fun i => D.int (a + (i : Nat))
theorem rgD_v {M : Gm} {F : Hp} (a b : Int) : reps M F (rgD a b) (rgV a b) := by
  unfold rgD rgV
  generalize List.range (b - a).toNat = l
  induction l with
  | nil => exact reps_nil
  | cons x r ih => exact reps_cons (rep_int' _) ih
def rgOkB (a b : Int) : Bool := gd (-4611686018427387904 ≤ a ∧ a < 4611686018427387904 ∧ -4611686018427387904 ≤ b ∧ b < 4611686018427387904 ∧ (b - a).toNat ≤ 16777216)
theorem rgOkB_ok {a b : Int} (h : rgOkB a b = true) : RgOk a b := by
  obtain ⟨h1, h2, h3, h4, h5⟩ := of_gd h
  exact ⟨by omega, by omega, by omega, by omega, h5⟩
def fLRg1 (f : FD) : FE := fun δ => (f δ).bind fun d δ => match d with
  | .int n => if rgOkB 0 n then .ok (.own (.l (rgD 0 n))) δ else .bad
  | _ => .bad
def fLRg2 (f g : FD) : FE := fun δ => (f δ).bind fun d δ => (g δ).bind fun d' δ => match d, d' with
  | .int a, .int b => if rgOkB a b then .ok (.own (.l (rgD a b))) δ else .bad
  | _, _ => .bad
theorem de_lrg1 {a : Expr} {f : FD} {p q pos q2 : Pos} (hc : X.calm = true) (hg : Gl X "list") (hm : X.mg "list" = none) (hg2 : Gl X "range") (hm2 : X.mg "range" = none) (h : DI M W X a f)
    (na : starEach [.Call (.Name "range" q) [a] [] q2] X.env = (false, eval (.Call (.Name "range" q) [a] [] q2) X.env) :: starEach [] X.env := by rfl) (na2 : starEach [a] X.env = (false, eval a X.env) :: starEach [] X.env := by rfl) :
    DE M W X (.Call (.Name "list" p) [.Call (.Name "range" q) [a] [] q2] [] pos) (fLRg1 f) := by
  obtain ⟨t, pp, h⟩ := h
  refine ⟨_, pe_listRg hc hg hm (prg_1 hg2 hm2 pp na2) na, fun c F H σ δ Q ok post => h c F H σ δ _ ok (Post.bind post fun d δ1 v F1 H1 _ s1 ok1 r post => ?_)⟩
  split at post
  · rename_i n _
    split at post
    · rename_i hk
      have ev : v = .int n := by unfold ρD rep at r; exact r
      refine ⟨n, ev, rgOkB_ok hk, fun q hq => ?_⟩
      obtain ⟨o1, o2⟩ := new_list ok1 hq (rgD_v 0 n)
      exact post.ok o1 o2
    · exact post.elim
  · exact post.elim
theorem de_lrg2 {a b : Expr} {f g : FD} {p q pos q2 : Pos} (hc : X.calm = true) (hg : Gl X "list") (hm : X.mg "list" = none) (hg2 : Gl X "range") (hm2 : X.mg "range" = none) (h : DI M W X a f) (h' : DI M W X b g)
    (na : starEach [.Call (.Name "range" q) [a, b] [] q2] X.env = (false, eval (.Call (.Name "range" q) [a, b] [] q2) X.env) :: starEach [] X.env := by rfl) (na2 : starEach [a, b] X.env = (false, eval a X.env) :: starEach [b] X.env := by rfl)
    (nb : starEach [b] X.env = (false, eval b X.env) :: starEach [] X.env := by rfl) (hp : (backTo q2 (starEach [b] X.env)).any (·.1) = false := by rfl) :
    DE M W X (.Call (.Name "list" p) [.Call (.Name "range" q) [a, b] [] q2] [] pos) (fLRg2 f g) := by
  obtain ⟨t, pp, h⟩ := h
  obtain ⟨t', pp', h'⟩ := h'
  refine ⟨_, pe_listRg hc hg hm (prg_2 hg2 hm2 pp pp' na2 nb hp) na, fun c F H σ δ Q ok post => h c F H σ δ _ ok (Post.bind post fun d δ1 v F1 H1 _ s1 ok1 r post => h' c F1 H1 σ δ1 _ ok1 (Post.bind post fun d' δ2 v' F2 H2 _ s2 ok2 r' post => ?_))⟩
  obtain ⟨m, rfl⟩ : ∃ m, d = .int m := by cases d <;> first | exact ⟨_, rfl⟩ | exact post.elim
  obtain ⟨n, rfl⟩ : ∃ n, d' = .int n := by cases d' <;> first | exact ⟨_, rfl⟩ | exact post.elim
  simp only at post
  split at post
  · rename_i hk
    have ev : v = .int m := by unfold ρD rep at r; exact r
    have ev' : v' = .int n := by unfold ρD rep at r'; exact r'
    refine ⟨m, n, ev, ev', rgOkB_ok hk, fun q hq => ?_⟩
    obtain ⟨o1, o2⟩ := new_list ok2 hq (rgD_v m n)
    exact post.ok o1 o2
  · exact post.elim
end
/-! ### methods that change a list in a slot -/
abbrev RM := V → List V → Hp → VK → Prop
/-- a list's method by values: the list, the arguments; the answer, the list behind it -/
def MutD (M : Gm) (r : RM) (m : List D → List D → Option (D × List D)) : Prop := ∀ (F H : Hp) (a : Addr) (vs xs : List V) (ds as : List D) (z : D) (ds' : List D) (Q : VK), Same F H → F a = none → H a = some (.lst vs) → reps M F ds vs → reps M F as xs →
  m ds as = some (z, ds') → (∀ v vs', rep M F z v → reps M F ds' vs' → Q v (upd H a (.lst vs'))) → r (.ref a) xs H Q
def putL (δ : Sl) (i : Nat) (ds : List D) : Option Sl := match δ[i]? with
  | some (some (.own (.l _))) => some (δ.set i (some (.own (.l ds))))
  | some (some (.brw (.l _))) => some (δ.set i (some (.brw (.l ds))))
  | _ => none
def getL (δ : Sl) (i : Nat) : Option (List D) := match δ[i]? with
  | some (some (.own (.l ds))) => some ds
  | some (some (.brw (.l ds))) => some ds
  | _ => none
def fMut (i : Nat) (m : List D → List D → Option (D × List D)) (fa : FA) : FD := fun δ => match getL δ i with
  | none => .bad
  | some _ => (fa δ).bind fun as δ1 => match getL δ1 i with
    | none => .bad
    | some ds => match m ds as with
      | none => .bad
      | some (z, ds') => .ok z (match δ1[i]? with
        | some (some (.own _)) => δ1.set i (some (.own (.l ds')))
        | _ => δ1.set i (some (.brw (.l ds'))))
section
variable {M : Gm} {c : Cn M} {W : WX} {X : Cx}
theorem getL_at {F H : Hp} {σ : St} {δ : Sl} {i : Nat} {ds : List D} (ok : Ok c F H σ δ) (h : getL δ i = some ds) : ∃ a vs, σ[i]? = some (some (.ref a)) ∧ F a = none ∧ H a = some (.lst vs) ∧ reps M F ds vs ∧ (δ[i]? = some (some (.own (.l ds))) ∨ δ[i]? = some (some (.brw (.l ds)))) := by
  unfold getL at h
  split at h
  · rename_i ds0 q
    cases h
    obtain ⟨v, e1, a, rfl, h1, h2, vs, h3, h4⟩ := ok.slot i _ q
    exact ⟨a, vs, e1, h1, h3, h4, .inl q⟩
  · rename_i ds0 q
    cases h
    obtain ⟨v, e1, a, rfl, h1, h2, vs, h3, h4⟩ := ok.slot i _ q
    exact ⟨a, vs, e1, h1, h3, h4, .inr q⟩
  · cases h
theorem putL_ok {F H : Hp} {σ : St} {δ : Sl} {i : Nat} {ds ds' : List D} {a : Addr} {vs' : List V} (ok : Ok c F H σ δ) (ea : σ[i]? = some (some (.ref a))) (hd : δ[i]? = some (some (.own (.l ds))) ∨ δ[i]? = some (some (.brw (.l ds)))) (r : reps M F ds' vs') :
    Ok c F (upd H a (.lst vs')) σ (match δ[i]? with
        | some (some (.own _)) => δ.set i (some (.own (.l ds')))
        | _ => δ.set i (some (.brw (.l ds')))) := by
  rcases hd with q | q
  · rw [q]
    exact ok.write (ob := .l ds) (ob' := .l ds') q (.inl ⟨rfl, rfl⟩) ea ⟨vs', upd_same, r⟩
  · rw [q]
    exact ok.write (ob := .l ds) (ob' := .l ds') q (.inr ⟨rfl, rfl⟩) ea ⟨vs', upd_same, r⟩
theorem d_mut {e o : Expr} {es : List Expr} {i : Nat} {r : RM} {m : List D → List D → Option (D × List D)} {fa : FA} (mk : ∀ {t : TA}, PA X es t → PE X e (tBM X.K "list" r (tVar i) t)) (hd : MutD M r m) (ha : DA M W X es fa) : DI M W X e (fMut i m fa) := by
  obtain ⟨t, p, h⟩ := ha
  refine ⟨_, mk p, fun c F H σ δ Q ok post => ?_⟩
  unfold fMut at post
  split at post
  · exact post.elim
  · rename_i ds0 q0
    obtain ⟨a, vs, ea, _, hl, _, _⟩ := getL_at ok q0
    refine ⟨.ref a, ea, .inl ⟨rfl, vs, SqL.of hl⟩, h c F H σ δ _ ok (Post.bind post fun as δ1 xs F1 H1 _ s1 ok1 rs post => ?_)⟩
    split at post
    · exact post.elim
    · rename_i ds q1
      obtain ⟨a', vs', ea', hf', hl', hr', hs'⟩ := getL_at ok1 q1
      rw [ea] at ea'; cases ea'
      split at post
      · exact post.elim
      · rename_i z ds' q2
        exact hd F1 H1 a vs' xs ds as z ds' Q ok1.same hf' hl' hr' rs q2 fun v vs2 rv rv2 => post.ok (putL_ok ok1 ea hs' rv2) rv
theorem d_mut0 {e : Expr} {i : Nat} {r : RM} {m : List D → List D → Option (D × List D)} (mk : PE X e (tBM0 X.K "list" r (tVar i))) (hd : MutD M r m) : DI M W X e (fMut i m aNil) := by
  refine ⟨_, mk, fun c F H σ δ Q ok post => ?_⟩
  unfold fMut at post
  split at post
  · exact post.elim
  · rename_i ds0 q0
    obtain ⟨a, vs, ea, hf, hl, hr, hs⟩ := getL_at ok q0
    refine ⟨.ref a, ea, .inl ⟨rfl, vs, SqL.of hl⟩, ?_⟩
    change Post c W F σ (ρD c) (match getL δ i with | none => .bad | some ds => match m ds [] with | none => .bad | some (z, ds') => .ok z _) Q at post
    rw [q0] at post
    simp only at post
    split at post
    · exact post.elim
    · rename_i z ds' q2
      exact hd F H a vs [] ds0 [] z ds' Q ok.same hf hl hr reps_nil q2 fun v vs2 rv rv2 => post.ok (putL_ok ok ea hs rv2) rv
/-- append: what is appended is frozen data -/
def mAppend : List D → List D → Option (D × List D)
  | ds, [d] => if ds.length < 16777216 then some (.non, ds ++ [d]) else none
  | _, _ => none
theorem md_append : MutD M rAppend mAppend := by
  intro F H a vs xs ds as z ds' Q s hf hl hr ha e q
  unfold mAppend at e
  split at e
  · split at e
    · rename_i d hlen
      cases e
      obtain ⟨v, r, rfl, h2, h3⟩ := (show ∃ v r, xs = v :: r ∧ rep M F d v ∧ reps M F [] r by unfold reps at ha; exact ha)
      unfold reps at h3
      subst h3
      exact ⟨a, vs, v, rfl, rfl, hl, by rw [reps_length hr, sizeLine_eq]; exact hlen, q _ _ rep_non' (reps_append hr (reps_cons h2 reps_nil))⟩
    · cases e
  · cases e
def mPop : List D → List D → Option (D × List D)
  | ds, [] => (ds[ds.length - 1]?).map fun d => (d, ds.dropLast)
  | ds, [.int i] => if gd (0 ≤ i ∧ i < ds.length ∧ i < 9223372036854775808) then (ds[i.toNat]?).map fun d => (d, ds.eraseIdx i.toNat) else none
  | _, _ => none
theorem reps_erase {M : Gm} {F : Hp} : ∀ {ds : List D} {vs : List V} (i : Nat), reps M F ds vs → reps M F (ds.eraseIdx i) (vs.eraseIdx i)
  | [], vs, i, h => by unfold reps at h; subst h; simp [reps]
  | d :: ds, vs, 0, h => by
    unfold reps at h
    obtain ⟨v, r, rfl, h2, h3⟩ := h
    exact h3
  | d :: ds, vs, i + 1, h => by
    unfold reps at h
    obtain ⟨v, r, rfl, h2, h3⟩ := h
    exact reps_cons h2 (reps_erase i h3)
theorem reps_dropLast {M : Gm} {F : Hp} {ds : List D} {vs : List V} (h : reps M F ds vs) : reps M F ds.dropLast vs.dropLast := by
  rw [List.dropLast_eq_take, List.dropLast_eq_take, reps_length h]
  exact reps_take _ h
def rPopAll : RM := fun x vs H Q => rPop x vs H Q ∨ rPopAt x vs H Q
theorem mt_popAll : MtM X "list.pop" rPopAll := fun pins s σ H x xs v us Q I rx rs h => h.elim (mt_pop pins s σ H x xs v us Q I rx rs) (mt_popAt pins s σ H x xs v us Q I rx rs)
theorem md_pop : MutD M rPopAll mPop := by
  intro F H a vs xs ds as z ds' Q s hf hl hr ha e q
  unfold mPop at e
  split at e
  · obtain ⟨d, e1, e2⟩ := Option.map_eq_some_iff.mp e
    cases e2
    unfold reps at ha
    subst ha
    obtain ⟨v, e3, e4⟩ := reps_get hr e1
    exact .inl ⟨a, vs, v, rfl, rfl, hl, by rw [reps_length hr]; exact e3, q _ _ e4 (reps_dropLast hr)⟩
  · rename_i i
    split at e
    · rename_i hc
      obtain ⟨h0, h1, h2⟩ := of_gd hc
      obtain ⟨d, e1, e2⟩ := Option.map_eq_some_iff.mp e
      cases e2
      obtain ⟨v, r, rfl, k2, k3⟩ := (show ∃ v r, xs = v :: r ∧ rep M F (.int i) v ∧ reps M F [] r by unfold reps at ha; exact ha)
      unfold reps at k3
      subst k3
      unfold rep at k2
      subst k2
      obtain ⟨w, e3, e4⟩ := reps_get hr e1
      refine .inr ⟨a, vs, i, i.toNat, w, rfl, rfl, hl, by omega, by omega, ?_, e3, q _ _ e4 (reps_erase _ hr)⟩
      rw [reps_length hr]
      exact seqIndex_of h0 h1
    · cases e
  · cases e
end
end
end TS

set_option maxRecDepth 100000
set_option maxHeartbeats 4000000
/-! TS6: own calls, methods, instances, fields. -/
namespace TS
open PySem L2
noncomputable section
/-! ### room for calls, nothing under way; promises of defs -/
structure Room (k : Nat) (A : Around) : Prop where
  lo : L2.Room k A
  gu : A.guards = some []
theorem Room.mono {j k : Nat} {A : Around} (r : Room k A) (h : j ≤ k) : Room j A := ⟨L2.Room.mono r.lo h, r.gu⟩
theorem Room.deeper {k : Nat} {A : Around} (r : Room (k + 1) A) (env : Env) : Room k (A.deeper env) := ⟨L2.Room.deeper r.lo env, r.gu⟩
theorem Room.in1 {k : Nat} {A : Around} (r : Room (k + 1) A) : Room k A.in1 := ⟨L2.Room.in1 r.lo, r.gu⟩
theorem Room.make {k : Nat} {A : Around} (r : Room (k + 1) A) (C : Addr) (us : List Value) (kw : List (Str × Value)) : Room k (A.under (.builtin "type.__call__" ⟨.ref C :: us, kw⟩)) := by
  refine ⟨L2.Room.make r.lo C us kw, ?_⟩
  have e : (Code.builtin "type.__call__" ⟨.ref C :: us, kw⟩).isGuard = false := by
    show guardIds.contains "type.__call__" = false
    decide +kernel
  simp [Around.under, Code.guards, e, pushGuards, r.gu]
theorem Room.hd {k : Nat} {A : Around} (r : Room k A) : A.handled = none := r.lo.hd
theorem Room.depth {k : Nat} {A : Around} (r : Room k A) : A.depth < recursionLimit := L2.Room.depth r.lo
theorem Room.units {k : Nat} {A : Around} (r : Room k A) : A.units + 64 < cLine := L2.Room.units r.lo
theorem Room.units0 {k : Nat} {A : Around} (r : Room k A) : A.units < cLine := L2.Room.units0 r.lo
theorem hu_of {A : Around} {k : Nat} (hr : Room k A) : A.units + 1 < cLine := L2.hu_of hr.lo
def FnR (P : Program) (w : World) (K : PySem.W.Frag) (mg : Str → Option Value) (base : Heap) (CX : CXT) (k : Nat) (f : Addr) (sp : Sp) : Prop :=
  ∀ (A : Around) (outer : List Env) (s : Shared) (H : Hp) (us : List Value) (vs : List V) (Q : VK) (E : XK), Room k A → Env0 P w K mg base A outer s H → Vals vs us → sp vs H Q E → codeAny (model P w) A (.call (.ref f) ⟨us, []⟩) (CR CX outer P w H s Q E) s
structure FnOk (P : Program) (w : World) (K : PySem.W.Frag) (mg : Str → Option Value) (base : Heap) (CX : CXT) (k : Nat) (f : Addr) (fd : FuncData) (ps : List Str) (sp : Sp) : Prop where
  len : ∀ vs H Q E, sp vs H Q E → vs.length = ps.length
  run : ∀ (A : Around) (outer : List Env) (s : Shared) (H : Hp) (args : Args) (us : List Value) (vs : List V) (Q : VK) (E : XK), Room k A → Env0 P w K mg base A outer s H → BindsTo s fd args (ps.zip us) → Vals vs us → sp vs H Q E → codeAny (model P w) A (.call (.ref f) args) (CR CX outer P w H s Q E) s
section
variable {P : Program} {w : World} {K : PySem.W.Frag} {mg : Str → Option Value} {base : Heap} {CX : CXT} {j k : Nat} {f : Addr} {fd : FuncData} {ps : List Str} {sp sp' : Sp}
theorem FnR.mono (F : FnR P w K mg base CX j f sp) (h : j ≤ k) : FnR P w K mg base CX k f sp := fun A outer s H us vs Q E hr e0 => F A outer s H us vs Q E (Room.mono hr h) e0
theorem FnR.imp (F : FnR P w K mg base CX k f sp) (h : ∀ vs H Q E, sp' vs H Q E → sp vs H Q E) : FnR P w K mg base CX k f sp' := fun A outer s H us vs Q E hr e0 rv hs => F A outer s H us vs Q E hr e0 rv (h vs H Q E hs)
theorem FnOk.mono (F : FnOk P w K mg base CX j f fd ps sp) (h : j ≤ k) : FnOk P w K mg base CX k f fd ps sp where
  len := F.len
  run := fun A outer s H args us vs Q E hr => F.run A outer s H args us vs Q E (Room.mono hr h)
theorem FnOk.raw {ds : List Value} {dvs : List V} (F : FnOk P w K mg base CX k f fd ps sp) (hb : Binds K fd ps ds) (hd : Vals dvs ds) : FnR P w K mg base CX k f (fun vs H Q E => sp (vs ++ dvs) H Q E) := by
  intro A outer s H us vs Q E hr e0 rv hs
  have rr := rv.append hd
  have lr : (us ++ ds).length = ps.length := rr.length.symm.trans (F.len _ _ _ _ hs)
  have kin : K.In s.heap := e0.mod.kin.keeps fun b o e => (e0.bs b o e).1
  exact F.run A outer s H ⟨us, []⟩ (us ++ ds) (vs ++ dvs) Q E hr e0 (hb s us kin lr) rr hs
/-- the function at f bears the code cdv -/
def CodeAt (K : PySem.W.Frag) (f : Addr) (x qual : Str) (params : Arguments) (body : List Stmt) (scope : Scope) (cdv : Value) : Prop := ∃ (oc : Value) (od : Option Addr) (dV kV doc pm ct : Value) (an : Option Addr) (osl : Array (Option Value)), K.lookup f = some ⟨oc, od, .func (PySem.W.fnOf x qual params body scope dV kV doc pm an cdv ct), osl⟩
/-- a def's promise from its body's walk -/
theorem FnOk.ofC {x qual : Str} {params : Arguments} {body : List Stmt} {scope : Scope} {dvs : List V} {kws : List (Str × V)} {N : List Str} (F : FunD K x qual params body scope dvs kws f fd) (S : FnScope N ps scope) (len : ∀ vs H Q E, sp vs H Q E → vs.length = ps.length)
    (hb : ∀ (cdv : Value), CodeAt K f x qual params body scope cdv → ∀ (A : Around) (outer : List Env) (s : Shared) (H : Hp) (vs : List V) (Q : VK) (E : XK), Room k (A.deeper (PyProof.Rows.envOfC qual scope s.heap.objs.size f cdv)) → sp vs H Q E →
      ∃ t, PSs (cxOf CX P w K mg base N qual scope f cdv A outer s H E) body t ∧ t { rt := Q, nx := fun _ H' => Q .non H' } (start N vs) H) : FnOk P w K mg base CX (k + 1) f fd ps sp := by
  obtain ⟨oc, od, dV, kV, doc, pm, an, cdv, ct, osl, rfl, lk, hcd, _, _⟩ := F.ex
  refine ⟨len, ?_⟩
  intro A outer s H args us vs Q E hr e0 hbn rv hs
  have kin : K.In s.heap := e0.mod.kin.keeps fun b o e => (e0.bs b o e).1
  have nl : s.heap.NoLimit := e0.mod.nolimit.keeps fun b o e => (e0.bs b o e).1
  have kinds : ∀ y ∈ ps.zip us, scope.names.lookup y.1 = some .local ∨ (scope.names.lookup y.1 = some .cell ∧ ((cellsFrom (s.heap.objs.size + 1) scope.names []).lookup y.1).isSome = true) := by
    rintro ⟨n, v⟩ hy
    have := S.par n (List.of_mem_zip hy).1
    exact this.elim Or.inl fun q => Or.inr ⟨q, PySem.W.cellsFrom_some _ _ _ (Or.inl q)⟩
  refine codeAny_call_function hr.depth (kin _ _ lk) rfl S.co S.gen rfl (PySem.W.codeRec_of kin hcd) (hbn _ _ _ _ (PySem.wpAny_newFunctionEnv_cells S.kind kinds ?_))
  rintro env rfl s1 x1
  refine ⟨nl.keeps x1.toInCall.keep, codeAny_func ?_⟩
  obtain ⟨t, pt, ht⟩ := hb cdv ⟨oc, od, dV, kV, doc, pm, ct, an, osl, lk⟩ A outer s H vs Q E (Room.deeper hr _) hs
  have I1 := inv_start (CX := CX) (E := E) S hr.hd e0 (len _ _ _ _ hs) rv x1
  refine wpAny_mono (pt.run [] s1 _ H _ I1 ht) (fun fl s2 z => ?_) fun _ _ z => z
  cases fl with
  | ret u => obtain ⟨v, σ2, H2, J, ru, q⟩ := z; exact ⟨v, H2, J.os, J.bare, J.base, J.hok, ru, q⟩
  | next => obtain ⟨σ2, H2, J, q⟩ := z; exact ⟨V.non, H2, J.os, J.bare, J.base, J.hok, rfl, q⟩
  | brk => obtain ⟨_, _, _, q⟩ := z; exact q.elim
  | cont => obtain ⟨_, _, _, q⟩ := z; exact q.elim
theorem FnOk.of {x qual : Str} {params : Arguments} {body : List Stmt} {scope : Scope} {dvs : List V} {kws : List (Str × V)} {N : List Str} (F : FunD K x qual params body scope dvs kws f fd) (S : FnScope N ps scope) (len : ∀ vs H Q E, sp vs H Q E → vs.length = ps.length)
    (hb : ∀ (cdv : Value) (A : Around) (outer : List Env) (s : Shared) (H : Hp) (vs : List V) (Q : VK) (E : XK), Room k (A.deeper (PyProof.Rows.envOfC qual scope s.heap.objs.size f cdv)) → sp vs H Q E →
      ∃ t, PSs (cxOf CX P w K mg base N qual scope f cdv A outer s H E) body t ∧ t { rt := Q, nx := fun _ H' => Q .non H' } (start N vs) H) : FnOk P w K mg base CX (k + 1) f fd ps sp := FnOk.ofC F S len fun cdv _ => hb cdv
/-- a def with a star parameter: the rest is a new tuple -/
theorem FnR.star {name qual : Str} {params : Arguments} {body : List Stmt} {scope : Scope} {dV kV doc pm cdv ct oc : Value} {an od : Option Addr} {osl : Array (Option Value)} {N : List Str} {pv : Str} (lk : K.lookup f = some ⟨oc, od, .func (PySem.W.fnOf name qual params body scope dV kV doc pm an cdv ct), osl⟩) (hcd : PySem.W.codeIn K cdv qual = true)
    (S : FnScope N (ps ++ [pv]) scope) (hCX : StX.CXUp CX)
    (hbi : ∀ us rest : List Value, us.length = ps.length → bindArgs (PySem.W.fnOf name qual params body scope dV kV doc pm an cdv ct) ⟨us ++ rest, []⟩ = (newTuple rest >>= fun t => pure (ps.zip us ++ [(pv, t)])))
    (hb : ∀ (A : Around) (outer : List Env) (s : Shared) (H : Hp) (vs : List V) (Q : VK) (E : XK), Room k (A.deeper (PyProof.Rows.envOfC qual scope s.heap.objs.size f cdv)) → sp vs H Q E →
      ∃ t, PSs (cxOf CX P w K mg base N qual scope f cdv A outer s H E) body t ∧ t { rt := Q, nx := fun _ H' => Q .non H' } (start N vs) H) :
    FnR P w K mg base CX (k + 1) f (fun vs H Q E => ∃ ws rest, vs = ws ++ rest ∧ ws.length = ps.length ∧ rest.length ≤ sizeLine ∧ ∀ p, H p = Option.none → sp (ws ++ [V.ref p]) (upd H p (.tup rest)) Q E) := by
  rintro A outer s H us _ Q E hr e0 rv ⟨ws, rest, rfl, hl, hz, hq⟩
  obtain ⟨u1, u2, rfl, r1, r2⟩ := StX.vals_split rv
  have l1 : u1.length = ps.length := r1.length.symm.trans hl
  have l2 : u2.length ≤ sizeLine := by have := r2.length; omega
  have hn : H s.heap.objs.size = Option.none := e0.hok.fresh (Nat.le_refl _)
  have kin : K.In s.heap := e0.mod.kin.keeps fun b o e => (e0.bs b o e).1
  refine codeAny_call_function hr.depth (kin _ _ lk) rfl S.co S.gen rfl (PySem.W.codeRec_of kin hcd) ?_
  rw [hbi u1 u2 l1]
  refine wpAny_bind (wpAny_newTuple (wpAny_pure ?_) l2)
  let ob : Obj := { cls := .type "tuple", data := .seq u2.toArray }
  have nw : ObjOk P w (upd H s.heap.objs.size (.tup rest)) (s.heap.push ob) s.heap.objs.size (.tup rest) := ⟨hz, u2, r2, ⟨_, Heap.get?_push_size _ rfl, rfl, _, rfl⟩⟩
  have e2 := StX.env0_laid (o := ob) e0 nw
  have un := StX.un_laid (fs := frs outer) (s := s) (o := ob) (u := .tup rest) hn
  have lz : (ws ++ [V.ref s.heap.objs.size]).length = (ps ++ [pv]).length := by simp [hl]
  have rz : Vals (ws ++ [V.ref s.heap.objs.size]) (u1 ++ [Value.ref s.heap.objs.size]) := r1.append (.cons rfl .nil)
  have ez : ps.zip u1 ++ [(pv, Value.ref s.heap.objs.size)] = (ps ++ [pv]).zip (u1 ++ [Value.ref s.heap.objs.size]) := by rw [List.zip_append l1.symm]; rfl
  rw [ez]
  have nl : (s.heap.push ob).NoLimit := e0.mod.nolimit.keeps fun b o e => (e2.bs b o e).1
  have kinds : ∀ y ∈ (ps ++ [pv]).zip (u1 ++ [Value.ref s.heap.objs.size]), scope.names.lookup y.1 = some .local ∨ (scope.names.lookup y.1 = some .cell ∧ ((cellsFrom ((s.heap.push ob).objs.size + 1) scope.names []).lookup y.1).isSome = true) := by
    rintro ⟨n, v⟩ hy
    have := S.par n (List.of_mem_zip hy).1
    exact this.elim Or.inl fun q => Or.inr ⟨q, PySem.W.cellsFrom_some _ _ _ (Or.inl q)⟩
  refine PySem.wpAny_newFunctionEnv_cells (s := { s with heap := s.heap.push ob }) S.kind kinds ?_
  rintro env rfl s1 x1
  refine ⟨nl.keeps x1.toInCall.keep, codeAny_func ?_⟩
  obtain ⟨t, pt, ht⟩ := hb A outer { s with heap := s.heap.push ob } _ _ Q E (Room.deeper hr _) (hq _ hn)
  have I1 := inv_start (CX := CX) (E := E) S hr.hd e2 lz rz x1
  refine wpAny_mono (pt.run [] s1 _ _ _ I1 ht) (fun fl s2 z => ?_) fun e s2 z => ?_
  · cases fl with
    | ret u => obtain ⟨v, σ2, H2, J, ru, q⟩ := z; exact ⟨v, H2, J.os, J.bare, un.trans J.base, J.hok, ru, q⟩
    | next => obtain ⟨σ2, H2, J, q⟩ := z; exact ⟨V.non, H2, J.os, J.bare, un.trans J.base, J.hok, rfl, q⟩
    | brk => obtain ⟨_, _, _, q⟩ := z; exact q.elim
    | cont => obtain ⟨_, _, _, q⟩ := z; exact q.elim
  · have up : ∀ e' s', CX outer (upd H s.heap.objs.size (.tup rest)) { s with heap := s.heap.push ob } E e' s' → CX outer H s E e' s' := fun e' s' => hCX outer s H _ _ E e' s' un (fun b o q => Heap.get?_push_of_some _ q) rfl
    exact wpAny_mono z (fun _ s3 y => up e s3 y) fun e' s3 y => up e' s3 y
end
abbrev CXX (X : Cx) : CXT := L2.CX X.prog X.w
section
variable {X : Cx} {W : WX} {pins : List (Addr × Obj)} {σ : St} {H : Hp} {s : Shared}
theorem run_fnRS {k : Nat} {f : Addr} {sp : Sp} {Q : VK} {us : List Value} {vs : List V} (F : FnR X.prog X.w X.K X.mg X.base (CXX X) k f sp) (hr : Room k X.A) (tk : Takes X W) (I : Inv X pins σ H s) (r : Vals vs us) (h : sp vs H Q (WE W σ)) :
    codeAny (model X.prog X.w) X.A (.call (.ref f) ⟨us, []⟩) (fun r s' => match r with | .ok (.ret v) => EP X pins σ Q v s' | .ok _ => False | .error e => X.xe e s') s := by
  refine codeAny_mono (F X.A X.stack s H us vs Q (WE W σ) hr I.env0 r h) fun r s' hq => ?_
  cases r with
  | error e => exact passAt tk σ pins H s e s' I hq
  | ok fl =>
    cases fl with
    | ret u => exact I.after hq
    | next => exact False.elim hq
    | brk => exact False.elim hq
    | cont => exact False.elim hq
theorem run_makeRS {k : Nat} {f C : Addr} {sp : Sp} {Q : VK} {us : List Value} {vs : List V} (M : Mk X.K C f) (F : FnR X.prog X.w X.K X.mg X.base (CXX X) k f sp) (hr : Room (k + 1) X.A) (tk : Takes X W) (I : Inv X pins σ H s) (r : Vals vs us)
    (h : ∀ x dx, H x = Option.none → H dx = Option.none → dx ≠ x → sp (V.ref x :: vs) (upd (upd H dx (.own x)) x (.ins C dx [])) (fun v H2 => v = .non ∧ Q (.ref x) H2) (WE W σ)) :
    wpAny (model X.prog X.w) X.A (call (.ref C) us) (EP X pins σ Q) X.xe s := by
  have hq := h (s.heap.objs.size + 1) s.heap.objs.size (I.hok.fresh (Nat.le_succ _)) (I.hok.fresh (Nat.le_refl _)) (Nat.ne_of_lt (Nat.lt_succ_self _))
  have I2 := Inv.made (C := C) I
  have r2 : Vals (V.ref (s.heap.objs.size + 1) :: vs) (Value.ref (s.heap.objs.size + 1) :: us) := .cons rfl r
  refine wpAny_call (make_map (f := f) I.kIn M.makes M.init (beq_iff_eq.mp M.fn) (codeAny_mono (F _ X.stack _ _ (Value.ref (s.heap.objs.size + 1) :: us) _ _ (WE W σ) (hr.make C us []) (I2.env0.make C us []) r2 hq) fun r s' hq' => ?_))
  cases r with
  | error e => exact passAt tk σ pins _ _ e s' I2 hq'
  | ok fl =>
    cases fl with
    | ret u =>
      obtain ⟨v, H', I3, rv, ev, q3⟩ := I2.after hq'
      subst ev
      exact ⟨rv, ⟨V.ref (s.heap.objs.size + 1), H', I3, rfl, q3⟩⟩
    | next => exact False.elim hq'
    | brk => exact False.elim hq'
    | cont => exact False.elim hq'
end
section
variable {X : Cx} {W : WX} {k : Nat} {f C : Addr} {sp : Sp} {x m : Str} {e o : Expr} {es : List Expr} {ta : TE} {t : TA} {p pos apos : Pos}
def tOwn (W : WX) (sp : Sp) (t : TA) : TE := fun σ H Q => t σ H fun vs H1 => sp vs H1 Q (WE W σ)
theorem pe_own (F : FnR X.prog X.w X.K X.mg X.base (CXX X) k f sp) (hr : Room k X.A) (tk : Takes X W) (hg : Gl X x) (hm : X.mg x = some (.ref f)) (hk : PySem.W.keepIn X.K (.ref f) = true) (ha : PA X (e :: es) t)
    (hdb : (x == ("__debug__" : Str)) = false := by decide) (he : starEach (e :: es) X.env = (false, eval e X.env) :: starEach es X.env := by rfl) (hpl : (backTo pos (starEach es X.env)).any (·.1) = false := by rfl) :
    PE X (.Call (.Name x p) (e :: es) [] pos) (tOwn W sp t) := by
  refine ⟨fun pins s σ H Q I h => ?_⟩
  refine wpAny_Call_Name_kw (ld_glob I hg hm ?_ hdb)
  refine PySem.W.callWith_K (h₀ := X.base) I.ok.mod.kin hk (thn (ha.run pos pins s σ H _ I h) fun us s1 ⟨vs, H1, I1, r, q⟩ => ⟨I1.kIn, ?_⟩) he hpl
  exact wpAny_call (run_fnRS F hr tk I1 r q)
theorem pe_own0 (F : FnR X.prog X.w X.K X.mg X.base (CXX X) k f sp) (hr : Room k X.A) (tk : Takes X W) (hg : Gl X x) (hm : X.mg x = some (.ref f)) (hk : PySem.W.keepIn X.K (.ref f) = true)
    (hdb : (x == ("__debug__" : Str)) = false := by decide) : PE X (.Call (.Name x p) [] [] pos) (tOwn W sp tNil) := by
  refine ⟨fun pins s σ H Q I h => ?_⟩
  refine wpAny_Call_Name_kw (ld_glob I hg hm ?_ hdb)
  exact PySem.W.callWith_K0 I.kIn hk (wpAny_call (run_fnRS (us := []) F hr tk I .nil h))
/-- f( *e ) -/
theorem pe_ownS {te : TE} {sp_ : Pos} (F : FnR X.prog X.w X.K X.mg X.base (CXX X) k f sp) (hr : Room k X.A) (tk : Takes X W) (hg : Gl X x) (hm : X.mg x = some (.ref f)) (hk : PySem.W.keepIn X.K (.ref f) = true) (he : PE X e te)
    (hd : (x == ("__debug__" : Str)) = false := by decide) (hst : starEach [.Starred e sp_] X.env = [(true, eval e X.env)] := by rfl) :
    PE X (.Call (.Name x p) [.Starred e sp_] [] pos) (fun σ H Q => te σ H fun y H1 => ∃ a xs, y = V.ref a ∧ (SqT X.K H1 a xs ∨ SqL X.K H1 a xs) ∧ sp xs H1 Q (WE W σ)) := by
  refine ⟨fun pins s σ H Q I h => ?_⟩
  refine wpAny_Call_Name_kw (ld_glob I hg hm ?_ hd)
  refine PySem.W.callWith_S (h₀ := X.base) I.ok.mod.kin hk (thn (he.run pins s σ H _ I h) fun v s1 ⟨y, H1, I1, ry, a, xs, ey, hxs, q⟩ => ?_) hst
  subst ey
  obtain rfl : v = Value.ref a := ry
  exact StX.star_any I1 hxs fun us s2 I2 rv => ⟨I2.kIn, wpAny_call (run_fnRS F hr tk I2 rv q)⟩
def tMakeS (W : WX) (C : Addr) (sp : Sp) (t : TA) : TE := fun σ H Q => t σ H fun vs H1 => ∀ x dx, H1 x = Option.none → H1 dx = Option.none → dx ≠ x →
  sp (V.ref x :: vs) (upd (upd H1 dx (.own x)) x (.ins C dx [])) (fun v H2 => v = .non ∧ Q (.ref x) H2) (WE W σ)
theorem pe_makeS (M : Mk X.K C f) (F : FnR X.prog X.w X.K X.mg X.base (CXX X) k f sp) (hr : Room (k + 1) X.A) (tk : Takes X W) (hg : Gl X x) (hm : X.mg x = some (.ref C)) (ha : PA X (e :: es) t) (hdb : (x == ("__debug__" : Str)) = false := by decide)
    (he : starEach (e :: es) X.env = (false, eval e X.env) :: starEach es X.env := by rfl) (hpl : (backTo pos (starEach es X.env)).any (·.1) = false := by rfl) : PE X (.Call (.Name x p) (e :: es) [] pos) (tMakeS W C sp t) := by
  refine ⟨fun pins s σ H Q I h => ?_⟩
  refine wpAny_Call_Name_kw (ld_glob I hg hm ?_ hdb)
  refine PySem.W.callWith_K (h₀ := X.base) I.ok.mod.kin M.kp (thn (ha.run pos pins s σ H _ I h) fun us s1 ⟨vs, H1, I1, r, q⟩ => ⟨I1.kIn, ?_⟩) he hpl
  exact run_makeRS M F hr tk I1 r q
/-- cls(e, ..) where the slot i holds the class -/
def tMakeL (W : WX) (i : Nat) (C : Addr) (sp : Sp) (t : TA) : TE := fun σ H Q => σ[i]? = some (some (.ref C)) ∧ tMakeS W C sp t σ H Q
theorem pe_makeL {i : Nat} (M : Mk X.K C f) (F : FnR X.prog X.w X.K X.mg X.base (CXX X) k f sp) (hr : Room (k + 1) X.A) (tk : Takes X W) (hN : X.N[i]? = some x) (hv : Vis X.env.scope x) (ha : PA X (e :: es) t)
    (hdb : (x == ("__debug__" : Str)) = false := by decide) (hcd : (x == ("__classdict__" : Str)) = false := by decide)
    (he : starEach (e :: es) X.env = (false, eval e X.env) :: starEach es X.env := by rfl) (hpl : (backTo pos (starEach es X.env)).any (·.1) = false := by rfl) : PE X (.Call (.Name x p) (e :: es) [] pos) (tMakeL W i C sp t) := by
  refine ⟨fun pins s σ H Q I h => ?_⟩
  obtain ⟨hs, ht⟩ := h
  refine wpAny_Call_Name_kw (thn ((pe_var (pos := p) hN hv hdb hcd).run pins s σ H (fun v H1 => v = .ref C ∧ H1 = H) I ⟨.ref C, hs, rfl, rfl⟩) fun u s1 ⟨v, H1, I1, r1, q1⟩ => ?_)
  obtain ⟨rfl, rfl⟩ := q1
  cases r1
  refine PySem.W.callWith_K (h₀ := X.base) I.ok.mod.kin M.kp (thn (ha.run pos pins s1 σ _ _ I1 ht) fun us s2 ⟨vs, H2, I2, r, q⟩ => ⟨I2.kIn, ?_⟩) he hpl
  exact run_makeRS M F hr tk I2 r q
/-- o.m(e, ..): the class by the object -/
def tMethD (W : WX) (ok : Addr → Sp → Prop) (m : Str) (ta : TE) (t : TA) : TE := fun σ H Q => ta σ H fun x H1 => ∃ a C dx fs sp, x = .ref a ∧ H1 a = some (.ins C dx fs) ∧ ok C sp ∧ fs.lookup m = none ∧ t σ H1 fun vs H2 => sp (x :: vs) H2 Q (WE W σ)
structure MethOk (X : Cx) (k : Nat) (m : Str) (ok : Addr → Sp → Prop) : Prop where
  at_ : ∀ C sp, ok C sp → ∃ g, Cls X.K C ∧ Meth X.K C m g ∧ FnR X.prog X.w X.K X.mg X.base (CXX X) k g sp
theorem pe_methD {ok : Addr → Sp → Prop} {pl : Sem Bool} (he : PE X o ta) (T : MethOk X k m ok) (hr : Room k X.A) (tk : Takes X W) (ha : PA X (e :: es) t)
    (hst : starEach (e :: es) X.env = (false, eval e X.env) :: starEach es X.env := by rfl) (hpl : (backTo pos (starEach es X.env)).any (·.1) = false := by rfl)
    (ht : eval (.Call (.Attribute o m apos) (e :: es) [] pos) X.env = (do
      let ov ← eval o X.env
      standAt apos.atName
      let (f, first) ← holding [ov] (getMethod ov m pl)
      callWith pos f first (backTo pos (starEach (e :: es) X.env)) (backToKw pos (keywordEach [] X.env))) := by rfl) :
    PE X (.Call (.Attribute o m apos) (e :: es) [] pos) (tMethD W ok m ta t) := by
  refine ⟨fun pins s σ H Q I h => ?_⟩
  refine PySem.W.methodCall_KW (pl := pl) (thn (he.run pins s σ H _ I h) fun u s1 ⟨x, H1, I1, rx, a, C, dx, fs, sp, ex, ea, hok, l, q⟩ => ?_) ht
  obtain ⟨g, c, hm, F⟩ := T.at_ C sp hok
  subst ex
  obtain rfl : u = Value.ref a := rx
  refine getmeth_ok I1 ea c hm l ?_
  refine PySem.W.callWith_K (first := [.ref a]) (h₀ := X.base) I.ok.mod.kin hm.kp (thn (ha.run pos pins s1 σ H1 _ I1 q) fun us s2 ⟨vs, H2, I2, r, q2⟩ => ⟨I2.kIn, ?_⟩) hst hpl
  exact wpAny_call (run_fnRS (us := .ref a :: us) (vs := .ref a :: vs) F hr tk I2 (.cons rfl r) q2)
theorem pe_methD0 {ok : Addr → Sp → Prop} {pl : Sem Bool} (he : PE X o ta) (T : MethOk X k m ok) (hr : Room k X.A) (tk : Takes X W)
    (ht : eval (.Call (.Attribute o m apos) [] [] pos) X.env = (do
      let ov ← eval o X.env
      standAt apos.atName
      let (f, first) ← holding [ov] (getMethod ov m pl)
      callWith pos f first (backTo pos (starEach [] X.env)) (backToKw pos (keywordEach [] X.env))) := by rfl) :
    PE X (.Call (.Attribute o m apos) [] [] pos) (tMethD W ok m ta tNil) := by
  refine ⟨fun pins s σ H Q I h => ?_⟩
  refine PySem.W.methodCall_KW (pl := pl) (thn (he.run pins s σ H _ I h) fun u s1 ⟨x, H1, I1, rx, a, C, dx, fs, sp, ex, ea, hok, l, q⟩ => ?_) ht
  obtain ⟨g, c, hm, F⟩ := T.at_ C sp hok
  subst ex
  obtain rfl : u = Value.ref a := rx
  refine getmeth_ok I1 ea c hm l ?_
  exact PySem.W.callWith_K0 (first := [.ref a]) I1.kIn hm.kp (wpAny_call (run_fnRS (us := [.ref a]) (vs := [.ref a]) F hr tk I1 (.cons rfl .nil) q))
end

/-! ### what a call of a mirror does to the state -/
section
variable {M : Gm} {c : Cn M} {F F' H H' : Hp} {σ : St} {δ δ' : Sl}
theorem Ok.stpTmp (ok : Ok c F H σ δ) {x : Addr} (hx : c.H0 x = none) (hns : ∀ (i : Nat) (r : R), δ[i]? = some (some r) → r.mu = true → σ[i]? ≠ some (some (V.ref x))) (st : Stp M F H F' H' (some x)) : Ok c F' H' σ δ := by
  have hio : c.io ≠ some x := fun z => c.iob x z hx
  have kp : ∀ b o, b ≠ x → H b = some o → NT o → H' b = some o := fun b o hb e n => st.kept b o e n (fun z => hb (Option.some.inj z).symm)
  refine ⟨st.same, ok.grow.trans st.grow, fun b e1 e2 => ?_, fun b o e1 e2 => ?_, fun b e1 => ?_, st.tb, ok.len, fun i r e => ?_, ok.dist⟩
  · obtain ⟨u, k1, k2⟩ := ok.hn e1
    exact st.nofz b u k1 k2 (ok.nofz b e1 e2)
  · exact kp b o (fun z => by rw [z, hx] at e1; cases e1) (ok.kept b o e1 e2) (c.nt b o e1)
  · have hb : b ≠ x := fun z => hio (z ▸ e1)
    obtain ⟨o, q1, q2⟩ := ok.ioh b e1
    exact ⟨o, kp b o hb q1 q2, q2⟩
  · obtain ⟨v, s1, s2⟩ := ok.slot i r e
    refine ⟨v, s1, ?_⟩
    cases r with
    | imm d => exact rep_mono st.grow _ _ s2
    | own o =>
      obtain ⟨b, rfl, k1, k2, k3⟩ := s2
      obtain ⟨u, hu, hn⟩ := obAt_nt k3
      have hb : b ≠ x := fun z => hns i _ e rfl (by rw [s1, z])
      exact ⟨b, rfl, st.nofz b u hu hn k1, k2, obAt_mono st.grow ((kp b u hb hu hn).trans hu.symm) k3⟩
    | brw o =>
      obtain ⟨b, rfl, k1, k2, k3⟩ := s2
      obtain ⟨u, hu, hn⟩ := obAt_nt k3
      have hb : b ≠ x := fun z => hns i _ e rfl (by rw [s1, z])
      exact ⟨b, rfl, st.nofz b u hu hn k1, k2, obAt_mono st.grow ((kp b u hb hu hn).trans hu.symm) k3⟩
theorem Ok.resR' (ok : Ok c F H σ δ) (hm : ∀ (j : Nat) (r : R), δ'[j]? = some (some r) → r.mu = true → ∃ r0, δ[j]? = some (some r0) ∧ r0.mu = true) {r : R} {v : V} (h : resAt M H F' H' r v) : repR c F' H' σ δ' r v := by
  cases r with
  | imm d => exact h
  | own o =>
    obtain ⟨a, rfl, h1, h2, h3⟩ := h
    refine ⟨a, rfl, h1, ok.h1 h2, h3, fun i r e m => ?_⟩
    obtain ⟨r0, e0, m0⟩ := hm i r e m
    exact ok.fresh1 h2 i r0 e0 m0
  | brw o => exact h
theorem set_mu {i : Nat} {r r' : R} (e : δ[i]? = some (some r)) (h : r.mu = true) : ∀ (j : Nat) (q : R), (δ.set i (some r'))[j]? = some (some q) → q.mu = true → ∃ r0, δ[j]? = some (some r0) ∧ r0.mu = true := fun j q e1 m => by
  rcases getElem?_set_some e1 with ⟨rfl, _, _⟩ | ⟨_, e2⟩
  · exact ⟨r, e, h⟩
  · exact ⟨q, e2, m⟩
end
def outE (r : FR) (δ : Sl) : Res R := match r with
  | .ok r _ => .ok r δ
  | .exc x _ => .exc x δ
  | .bad => .bad
def fOwn (f : Fm) (fa : FA) : FE := fun δ => (fa δ).bind fun ds δ1 => outE (f none ds) δ1
def fOwnIo (f : Fm) (i : Nat) (fa : FA) : FE := fun δ => match δ[i]? with
  | some (some r0) => if r0.mu then (fa δ).bind fun ds δ1 => match δ1[i]? with
      | some (some (.own o)) => (match f (some o) ds with
        | .ok r (some o') => .ok r (δ1.set i (some (.own o')))
        | .exc x (some o') => .exc x (δ1.set i (some (.own o')))
        | _ => .bad)
      | some (some (.brw o)) => (match f (some o) ds with
        | .ok r (some o') => .ok r (δ1.set i (some (.brw o')))
        | .exc x (some o') => .exc x (δ1.set i (some (.brw o')))
        | _ => .bad)
      | _ => .bad
    else .bad
  | _ => .bad
def fOwnT (f : Fm) (fe : FE) : FE := fun δ => (fe δ).bind fun r δ1 => match r with
  | .own o => outE (f (some o) []) δ1
  | _ => .bad
def fMake (n : Nat) (f : Fm) (fa : FA) : FE := fun δ => (fa δ).bind fun ds δ1 => match f (some (.o n [])) ds with
  | .ok (.imm .non) (some (.o n' vs)) => if n' = n then .ok (.own (.o n vs)) δ1 else .bad
  | .exc x _ => .exc x δ1
  | _ => .bad
def fMakeL (n i : Nat) (f : Fm) (fa : FA) : FE := fun δ => match δ[i]? with
  | some (some (.imm (.cls n'))) => if n' = n then fMake n f fa δ else .bad
  | _ => .bad
def fMeth (tab : Nat → Option Fm) (fo : FD) (fa : FA) : FE := fun δ => (fo δ).bind fun d δ1 => match d with
  | .obj n vs => (match tab n with
    | some f => (fa δ1).bind fun ds δ2 => outE (f none (.obj n vs :: ds)) δ2
    | none => .bad)
  | _ => .bad
section
variable {M : Gm} {c : Cn M} {W : WX} {X : Cx} {e : Expr} {es : List Expr} {fa : FA} {f : Fm}
theorem own_of {F H : Hp} {σ : St} {δ : Sl} {vs : List V} {ds : List D} {Q : VK} (ok : Ok c F H σ δ) (rs : reps M F ds vs) (post : Post c W F σ (ρR c σ) (outE (f none ds) δ) Q) : spD M f vs H Q (WE W σ) := by
  refine ⟨F, none, 0, vs, ds, rfl, ok.same, ok.tb, rs, trivial, ?_⟩
  unfold outE at post
  cases q : f none ds with
  | ok r io => rw [q] at post; exact fun v F' H' st ra _ => post v F' H' st.grow (ok.stp st) (ok.resR st ra)
  | exc x io => rw [q] at post; exact fun cls d F' H' st xa _ => post cls d F' H' st.grow (ok.stp st) xa
  | bad => rw [q] at post; exact post
theorem make_of {n : Nat} {C : Addr} {F1 H1 : Hp} {σ : St} {δ1 : Sl} {vs : List V} {ds : List D} {Q : VK} (ok1 : Ok c F1 H1 σ δ1) (hG : M.G n = some C) (rs : reps M F1 ds vs)
    (post : Post c W F1 σ (ρR c σ) (match f (some (.o n [])) ds with
      | .ok (.imm .non) (some (.o n' vs)) => if n' = n then .ok (.own (.o n vs)) δ1 else .bad
      | .exc x _ => .exc x δ1
      | _ => .bad) Q) {x dx : Addr} (hx : H1 x = none) (hdx : H1 dx = none) (hne : dx ≠ x) :
    spD M f (V.ref x :: vs) (upd (upd H1 dx (.own x)) x (.ins C dx [])) (fun v H2 => v = .non ∧ Q (.ref x) H2) (WE W σ) := by
  have ok2 : Ok c F1 (upd H1 dx (.own x)) σ δ1 := ok1.alloc hdx
  have hx2 : (upd H1 dx (.own x)) x = none := by rw [upd_ne (Ne.symm hne)]; exact hx
  have ok3 : Ok c F1 (upd (upd H1 dx (.own x)) x (.ins C dx [])) σ δ1 := ok2.alloc hx2
  refine ⟨F1, some (.o n []), x, vs, ds, rfl, ok3.same, ok3.tb, rs, ⟨ok1.f hx, C, dx, [], hG, upd_same, rfl, reps_nil⟩, ?_⟩
  have h0 := ok1.h0 hx
  have hns := ok1.fresh hx
  cases q : f (some (.o n [])) ds with
  | bad => rw [q] at post; exact post
  | exc xx io => rw [q] at post; exact fun cls d F' H' st xa _ => post cls d F' H' st.grow (ok3.stpTmp h0 hns st) xa
  | ok r io =>
    rw [q] at post
    intro v F' H' st ra ia
    split at post
    · rename_i n' vs' e1
      cases e1
      split at post
      · rename_i hn
        subst hn
        have ev : v = .non := by
          have z : rep M F' .non v := ra
          unfold rep at z; exact z
        refine ⟨ev, post _ F' H' st.grow (ok3.stpTmp h0 hns st) ⟨x, rfl, ia.1, h0, ia.2, hns⟩⟩
      · exact post.elim
    · rename_i e1
      cases e1
    · exact post.elim
theorem d_own (mk : ∀ {t : TA}, PA X es t → PE X e (tOwn W (spD M f) t)) (ha : DA M W X es fa) : DE M W X e (fOwn f fa) := by
  obtain ⟨t, p, h⟩ := ha
  exact ⟨_, mk p, fun c F H σ δ Q ok post => h c F H σ δ _ ok (Post.bind post fun ds δ1 vs F1 H1 _ s ok1 rs post => own_of ok1 rs post)⟩
theorem d_ownS {e1 : Expr} {fe : FD} (mk : ∀ {te : TE}, PE X e1 te → PE X e (fun σ H Q => te σ H fun y H1 => ∃ a xs, y = V.ref a ∧ (SqT X.K H1 a xs ∨ SqL X.K H1 a xs) ∧ spD M f xs H1 Q (WE W σ))) (ha : DP M W X e1 fe) (hK : X.K = M.K := by rfl) :
    DE M W X e (fun δ => (fe δ).bind fun d δ1 => match d with | .lst ds => outE (f none ds) δ1 | .tup ds => outE (f none ds) δ1 | _ => .bad) := by
  obtain ⟨t, p, h⟩ := ha
  refine ⟨_, mk p, fun c F H σ δ Q ok post => h c F H σ δ _ ok (Post.bind post fun d δ1 v F1 H1 _ s ok1 r post => ?_)⟩
  split at post
  · obtain ⟨a, vs, rfl, h2, h3⟩ := prep_lst ok1.same r
    exact ⟨a, vs, rfl, .inr (SqL.of h2), own_of ok1 h3 post⟩
  · obtain ⟨a, vs, rfl, h2, h3⟩ := prep_tup ok1.same r
    exact ⟨a, vs, rfl, .inl (by rw [hK]; exact h2), own_of ok1 h3 post⟩
  · exact post.elim
theorem d_ownIo {e0 : Expr} {i : Nat} (mk : ∀ {t : TA}, PA X (e0 :: es) t → PE X e (tOwn W (spD M f) t)) (h0 : PE X e0 (tVar i)) (ha : DA M W X es fa) (hs : starEach (e0 :: es) X.env = (false, eval e0 X.env) :: starEach es X.env := by rfl) : DE M W X e (fOwnIo f i fa) := by
  obtain ⟨t, p, h⟩ := ha
  refine ⟨_, mk (pa_cons h0 p hs), fun c F H σ δ Q ok post => ?_⟩
  unfold fOwnIo at post
  split at post
  · rename_i r0 q0
    split at post
    · rename_i hm0
      obtain ⟨a, ob0, ea, _, _, _⟩ := ok.mus q0 hm0
      refine ⟨.ref a, ea, h c F H σ δ _ ok (Post.bind post fun ds δ1 vs F1 H1 _ s1 ok1 rs post => ?_)⟩
      have fin : ∀ (r r1 : R) (ob : OB) (mkr : OB → R), δ1[i]? = some (some r1) → r1 = mkr ob → (∀ o, (mkr o).mu = true) → (mkr = R.own ∨ mkr = R.brw) →
          Post c W F1 σ (ρR c σ) (match f (some ob) ds with | .ok r (some o') => .ok r (δ1.set i (some (mkr o'))) | .exc x (some o') => .exc x (δ1.set i (some (mkr o'))) | _ => .bad) Q → spD M f (V.ref a :: vs) H1 Q (WE W σ) := by
        intro r r1 ob mkr q1 e1 hm hk post
        subst e1
        obtain ⟨a', ob1, ea', hf1, hob1, hk1⟩ := ok1.mus q1 (hm ob)
        rw [ea] at ea'; cases ea'
        have eob : ob1 = ob := by
          rcases hk with rfl | rfl
          · rcases hk1 with ⟨z, _⟩ | ⟨z, _⟩ <;> cases z; rfl
          · rcases hk1 with ⟨z, _⟩ | ⟨z, _⟩ <;> cases z; rfl
        subst eob
        have rel : ∀ o', (mkr ob1 = R.own ob1 ∧ mkr o' = R.own o') ∨ (mkr ob1 = R.brw ob1 ∧ mkr o' = R.brw o') := fun o' => by
          rcases hk with rfl | rfl
          · exact .inl ⟨rfl, rfl⟩
          · exact .inr ⟨rfl, rfl⟩
        refine ⟨F1, some ob1, a, vs, ds, rfl, ok1.same, ok1.tb, rs, ⟨hf1, hob1⟩, ?_⟩
        cases q : f (some ob1) ds with
        | bad => rw [q] at post; exact post
        | ok r io =>
          rw [q] at post
          cases io with
          | none => exact post.elim
          | some o' =>
            intro v F' H' st ra ia
            exact post v F' H' st.grow (ok1.stpIo q1 (rel o') ea st ia) (ok1.resR' (set_mu q1 (hm _)) ra)
        | exc x io =>
          rw [q] at post
          cases io with
          | none => exact post.elim
          | some o' =>
            intro cls d F' H' st xa ia
            exact post cls d F' H' st.grow (ok1.stpIo q1 (rel o') ea st ia) xa
      split at post
      · rename_i o q1
        exact fin (.imm .non) _ o R.own q1 rfl (fun _ => rfl) (.inl rfl) post
      · rename_i o q1
        exact fin (.imm .non) _ o R.brw q1 rfl (fun _ => rfl) (.inr rfl) post
      · exact post.elim
    · exact post.elim
  · exact post.elim
theorem d_ownT {e0 : Expr} {fe : FE} (mk : ∀ {t : TA}, PA X [e0] t → PE X e (tOwn W (spD M f) t)) (h0 : DE M W X e0 fe) (hs : starEach (e0 :: []) X.env = (false, eval e0 X.env) :: starEach [] X.env := by rfl) : DE M W X e (fOwnT f fe) := by
  obtain ⟨t, p, h⟩ := h0
  refine ⟨_, mk (pa_cons p pa_nil hs), fun c F H σ δ Q ok post => h c F H σ δ _ ok (Post.bind post fun r δ1 v F1 H1 _ s1 ok1 rr post => ?_)⟩
  cases r with
  | imm d => exact post.elim
  | brw o => exact post.elim
  | own o =>
    obtain ⟨a, rfl, h1, h2, h3, h4⟩ := rr
    refine ⟨F1, some o, a, [], [], rfl, ok1.same, ok1.tb, reps_nil, ⟨h1, h3⟩, ?_⟩
    change Post c W F1 σ (ρR c σ) (outE (f (some o) []) δ1) Q at post
    unfold outE at post
    cases q : f (some o) [] with
    | ok r io => rw [q] at post; exact fun v F' H' st ra _ => post v F' H' st.grow (ok1.stpTmp h2 h4 st) (ok1.resR' (fun j r e m => ⟨r, e, m⟩) ra)
    | exc x io => rw [q] at post; exact fun cls d F' H' st xa _ => post cls d F' H' st.grow (ok1.stpTmp h2 h4 st) xa
    | bad => rw [q] at post; exact post
/-! ### instances -/
theorem d_make {n : Nat} {C : Addr} (mk : ∀ {t : TA}, PA X es t → PE X e (tMakeS W C (spD M f) t)) (hG : M.G n = some C) (ha : DA M W X es fa) : DE M W X e (fMake n f fa) := by
  obtain ⟨t, p, h⟩ := ha
  refine ⟨_, mk p, fun c F H σ δ Q ok post => h c F H σ δ _ ok (Post.bind post fun ds δ1 vs F1 H1 _ s1 ok1 rs post => fun x dx hx hdx hne => ?_)⟩
  exact make_of ok1 hG rs post hx hdx hne
/-- cls(..) by a slot -/
theorem d_makeL {n i : Nat} {C : Addr} (mk : ∀ {t : TA}, PA X es t → PE X e (tMakeL W i C (spD M f) t)) (hG : M.G n = some C) (ha : DA M W X es fa) :
    DE M W X e (fMakeL n i f fa) := by
  obtain ⟨t, p, h⟩ := ha
  refine ⟨_, mk p, fun c F H σ δ Q ok post => ?_⟩
  unfold fMakeL at post
  split at post
  · rename_i n' q
    split at post
    · rename_i hn
      subst hn
      obtain ⟨v, e1, e2⟩ := ok.slot i _ q
      have ev : v = .ref C := by
        have z : rep M F (.cls n') v := e2
        unfold rep at z
        obtain ⟨C', h1, h2⟩ := z
        rw [hG] at h1; cases h1
        exact h2
      refine ⟨by rw [e1, ev], h c F H σ δ _ ok (Post.bind post fun ds δ1 vs F1 H1 _ s1 ok1 rs post => fun x dx hx hdx hne => ?_)⟩
      exact make_of ok1 hG rs post hx hdx hne
    · exact post.elim
  · exact post.elim
/-! ### methods -/
theorem lookup_none {α : Type} : ∀ {fs : List (Str × α)} {m : Str}, m ∉ fs.map (·.1) → fs.lookup m = none
  | [], m, _ => rfl
  | (k, v) :: r, m, h => by
    have h1 : m ≠ k := fun z => h (by simp [z])
    have h2 : m ∉ r.map (·.1) := fun z => h (by simp [z])
    have e : (m == k) = false := by simpa using h1
    simp only [List.lookup, e]
    exact lookup_none h2
/-- the mirrors of a method by the class of the object -/
def okM (M : Gm) (tab : Nat → Option Fm) : Addr → Sp → Prop := fun C sp => ∃ n f, tab n = some f ∧ M.G n = some C ∧ sp = spD M f
theorem d_meth {o : Expr} {m : Str} {tab : Nat → Option Fm} {fo : FD} (mk : ∀ {ta : TE} {t : TA}, PE X o ta → PA X es t → PE X e (tMethD W (okM M tab) m ta t)) (hn : ∀ n f, tab n = some f → m ∉ M.nm n) (ho : DI M W X o fo) (ha : DA M W X es fa) : DE M W X e (fMeth tab fo fa) := by
  obtain ⟨ta, pa, ho⟩ := ho
  obtain ⟨t, p, h⟩ := ha
  refine ⟨_, mk pa p, fun c F H σ δ Q ok post => ho c F H σ δ _ ok (Post.bind post fun d δ1 v F1 H1 _ s1 ok1 r post => ?_)⟩
  split at post
  · rename_i n vs _
    split at post
    · rename_i f hf
      have r0 := r
      unfold ρD rep at r
      obtain ⟨a, C, dx, fs, rfl, h1, h2, h3, h4⟩ := r
      refine ⟨a, C, dx, fs, spD M f, rfl, ok1.same _ _ h2, ⟨n, f, hf, h1, rfl⟩, lookup_none (fun z => hn n f hf (List.mem_of_mem_take (h3 ▸ z))), h c F1 H1 σ δ1 _ ok1 (Post.bind post fun ds δ2 ws F2 H2 _ s2 ok2 rs post => ?_)⟩
      exact own_of ok2 (reps_cons (rep_mono s2 _ _ r0) rs) post
    · exact post.elim
  · exact post.elim
theorem methOk_of {k : Nat} {m : Str} {tab : Nat → Option Fm} {M : Gm} (h : ∀ n f, tab n = some f → ∃ C g, M.G n = some C ∧ Cls X.K C ∧ Meth X.K C m g ∧ FnR X.prog X.w X.K X.mg X.base (CXX X) k g (spD M f)) : MethOk X k m (okM M tab) := ⟨fun C sp ⟨n, f, h1, h2, h3⟩ => by
  obtain ⟨C', g, k1, k2, k3, k4⟩ := h n f h1
  rw [h2] at k1; cases k1
  subst h3
  exact ⟨g, k2, k3, k4⟩⟩
/-! ### fields -/
theorem lookup_at {α : Type} : ∀ {fs : List (Str × α)} {j : Nat} {f : Str} {v : α}, (fs.map (·.1))[j]? = some f → f ∉ (fs.map (·.1)).take j → (fs.map (·.2))[j]? = some v → fs.lookup f = some v
  | [], j, f, v, h, _, _ => by simp at h
  | (k, w) :: r, 0, f, v, h, _, hv => by
    simp at h hv
    subst h hv
    simp [List.lookup]
  | (k, w) :: r, j + 1, f, v, h, hn, hv => by
    simp at h hv
    simp only [List.map_cons, List.take_succ_cons, List.mem_cons, not_or] at hn
    have e : (f == k) = false := by simpa using hn.1
    simp only [List.lookup, e]
    exact lookup_at (by simpa using h) hn.2 (by simpa using hv)
def fFld (ix : Nat → Option Nat) (fo : FD) : FD := fun δ => (fo δ).bind fun d δ1 => match d with
  | .obj n vs => (match ix n with
    | some j => (match vs[j]? with
      | some d => .ok d δ1
      | none => .bad)
    | none => .bad)
  | _ => .bad
def FldT (M : Gm) (f : Str) (ix : Nat → Option Nat) : Prop := ∀ n j, ix n = some j → (∀ C, M.G n = some C → Cls M.K C ∧ NoAttr M.K C f) ∧ (M.nm n)[j]? = some f ∧ f ∉ (M.nm n).take j
theorem fld_look {M : Gm} {f : Str} {ix : Nat → Option Nat} (T : FldT M f ix) {F : Hp} {n j : Nat} {vs : List D} {fs : List (Str × V)} {d : D} (hj : ix n = some j) (h3 : fs.map (·.1) = (M.nm n).take vs.length) (h4 : reps M F vs (fs.map (·.2))) (hd : vs[j]? = some d) : ∃ v, fs.lookup f = some v ∧ rep M F d v := by
  obtain ⟨_, k1, k2⟩ := T n j hj
  obtain ⟨v, e1, e2⟩ := reps_get h4 hd
  have hl : j < vs.length := (List.getElem?_eq_some_iff.mp hd).1
  refine ⟨v, lookup_at (j := j) ?_ ?_ e1, e2⟩
  · rw [h3, List.getElem?_take_of_lt hl]; exact k1
  · rw [h3, List.take_take, Nat.min_eq_left (Nat.le_of_lt hl)]; exact k2
theorem di_fld {o : Expr} {f : Str} {pos : Pos} {ix : Nat → Option Nat} {fo : FD} (T : FldT M f ix) (ho : DP M W X o fo) (hK : X.K = M.K := by rfl) (hb : attributeBase o f X.env (eval o X.env) = eval o X.env := by rfl) : DI M W X (.Attribute o f pos) (fFld ix fo) := by
  obtain ⟨ta, pa, ho⟩ := ho
  refine ⟨_, pe_fld pa hb, fun c F H σ δ Q ok post => ho c F H σ δ _ ok (Post.bind post fun d δ1 v F1 H1 _ s1 ok1 r post => ?_)⟩
  split at post
  · rename_i n vs _
    split at post
    · rename_i j hj
      split at post
      · rename_i d hd
        obtain ⟨a, C, dx, fs, rfl, h1, h2, h3, h4⟩ := prep_obj ok1.same r
        obtain ⟨w, e1, e2⟩ := fld_look T hj h3 h4 hd
        obtain ⟨k1, k2⟩ := (T n j hj).1 C h1
        exact ⟨a, C, dx, fs, w, rfl, h2, by rw [hK]; exact k1, by rw [hK]; exact k2, e1, post.ok ok1 e2⟩
      · exact post.elim
    · exact post.elim
  · exact post.elim
/-! ### properties -/
def fProp (tab : Nat → Option Fm) (fo : FD) : FD := fun δ => (fo δ).bind fun d δ1 => match d with
  | .obj n vs => (match tab n with
    | some f => (match f none [.obj n vs] with
      | .ok (.imm d) _ => .ok d δ1
      | _ => .bad)
    | none => .bad)
  | _ => .bad
def tPropD (ok : Addr → Sp → Prop) (ta : TE) : TE := fun σ H Q => ta σ H fun x H1 => ∃ a C dx fs sp, x = .ref a ∧ H1 a = some (.ins C dx fs) ∧ ok C sp ∧ sp [.ref a] H1 Q E0
structure PropOk (X : Cx) (k : Nat) (f : Str) (ok : Addr → Sp → Prop) : Prop where
  at_ : ∀ C sp, ok C sp → ∃ p g, Cls X.K C ∧ PropOf X.K C f p g ∧ FnR X.prog X.w X.K X.mg X.base (CXX X) k g sp
/-- a getter's call -/
theorem prop_run {k : Nat} {f : Str} {C p g a dx : Addr} {fs : List (Str × V)} {sp : Sp} {pins : List (Addr × Obj)} {σ : St} {H : Hp} {s : Shared} {Q : VK} {b : Bool} (I : Inv X pins σ H s) (ea : H a = some (.ins C dx fs)) (c : Cls X.K C) (hp : PropOf X.K C f p g)
    (F : FnR X.prog X.w X.K X.mg X.base (CXX X) k g sp) (hr : Room (k + 1) X.A) (h : sp [.ref a] H Q E0) : wpAny (model X.prog X.w) X.A (getAttr (.ref a) f b) (EP X pins σ Q) X.xe s := by
  obtain ⟨mA, O, _, _, _, _⟩ := ins_get I.hok ea
  obtain ⟨od, J, _⟩ := O.look
  obtain ⟨rest, hrec⟩ := hp.rec_
  obtain ⟨cd, ecd, _⟩ := PySem.W.any_some c.hd
  have I1 := I.tok (s.toks + 1)
  have pg := PySem.W.plainGet_of (c.get f)
  have run := F X.A.in1 X.stack { s with toks := s.toks + 1 } H [.ref a] [.ref a] Q E0 (Room.in1 hr) I1.env0.in1 (.cons rfl .nil) h
  refine PySem.W.get_bind I.kIn J pg.1 (PySem.W.findObj_data (by rw [ecd]; rfl) hp.at_ hp.get hp.tak) pg.2 (wpAny_call (PySem.W.prop_get (s := { s with toks := s.toks + 1 }) I.kIn hrec (codeAny_mono run fun r s' z => ?_)))
  cases r with
  | error er => exact False.elim ((passL : Passes _ X.nox _) pins σ H { s with toks := s.toks + 1 } er s' (I1.wish _) z)
  | ok fl =>
    cases fl with
    | ret u =>
      obtain ⟨v, H', I3, ru, q⟩ := I1.after z
      show wpAny _ _ (handedOut u) _ _ _
      rw [PySem.W.handedOut_of (handed_of ru)]
      exact wpAny_pure ⟨v, H', I3, ru, q⟩
    | next => exact z.elim
    | brk => exact z.elim
    | cont => exact z.elim
theorem pe_propD {o : Expr} {f : Str} {pos : Pos} {k : Nat} {ta : TE} {ok : Addr → Sp → Prop} (he : PE X o ta) (T : PropOk X k f ok) (hr : Room (k + 1) X.A) (hab : attributeBase o f X.env (eval o X.env) = eval o X.env := by rfl) : PE X (.Attribute o f pos) (tPropD ok ta) := by
  refine ⟨fun pins s σ H Q I h => ?_⟩
  refine attr_of hab (thn (he.run pins s σ H _ I h) fun u s1 ⟨x, H1, I1, rx, a, C, dx, fs, sp, ex, ea, hok, q⟩ => ?_)
  obtain ⟨p, g, c, hp, F⟩ := T.at_ C sp hok
  subst ex
  obtain rfl : u = Value.ref a := rx
  exact prop_run I1 ea c hp F hr q
end
end
end TS

set_option maxRecDepth 100000
set_option maxHeartbeats 4000000
/-! TS7: statements, loops, comprehensions, defs. -/
namespace TS
open PySem L2
noncomputable section
/-! ### properties, class values, class methods -/
section
variable {M : Gm} {c : Cn M} {W : WX} {X : Cx}
theorem propOk_of {k : Nat} {m : Str} {tab : Nat → Option Fm} {M : Gm} (h : ∀ n f, tab n = some f → ∃ C p g, M.G n = some C ∧ Cls X.K C ∧ PropOf X.K C m p g ∧ FnR X.prog X.w X.K X.mg X.base (CXX X) k g (spD M f)) : PropOk X k m (okM M tab) := ⟨fun C sp ⟨n, f, h1, h2, h3⟩ => by
  obtain ⟨C', p, g, k1, k2, k3, k4⟩ := h n f h1
  rw [h2] at k1; cases k1
  subst h3
  exact ⟨p, g, k2, k3, k4⟩⟩
theorem di_prop {o : Expr} {f : Str} {pos : Pos} {k : Nat} {tab : Nat → Option Fm} {fo : FD} (T : PropOk X k f (okM M tab)) (hr : Room (k + 1) X.A) (ho : DI M W X o fo) (hb : attributeBase o f X.env (eval o X.env) = eval o X.env := by rfl) : DI M W X (.Attribute o f pos) (fProp tab fo) := by
  obtain ⟨ta, pa, ho⟩ := ho
  refine ⟨_, pe_propD pa T hr hb, fun c F H σ δ Q ok post => ho c F H σ δ _ ok (Post.bind post fun d δ1 v F1 H1 _ s1 ok1 r post => ?_)⟩
  split at post
  · rename_i n vs _
    split at post
    · rename_i f hf
      split at post
      · rename_i d io hd
        have r0 := r
        unfold ρD rep at r
        obtain ⟨a, C, dx, fs, rfl, h1, h2, h3, h4⟩ := r
        refine ⟨a, C, dx, fs, spD M f, rfl, ok1.same _ _ h2, ⟨n, f, hf, h1, rfl⟩, F1, none, 0, [.ref a], [.obj n vs], rfl, ok1.same, ok1.tb, reps_cons r0 reps_nil, trivial, ?_⟩
        rw [hd]
        exact fun v F' H' st ra _ => post v F' H' st.grow (ok1.stp st) ra
      · exact post.elim
    · exact post.elim
  · exact post.elim
theorem di_cval {o : Expr} {f : Str} {pos : Pos} {C : Addr} {mc u : Value} {v : V} {d : D} (ho : PE X o (tC (.ref C))) (r : ClX.CRead X.K C mc) (k : ClX.CVal X.K C mc f v u) (hd : ∀ F, rep M F d v) (hb : attributeBase o f X.env (eval o X.env) = eval o X.env := by rfl) : DI M W X (.Attribute o f pos) (kD d) :=
  ⟨_, ClX.pe_cval ho hb, fun c F H σ δ Q ok post => ⟨C, mc, v, u, rfl, r, k, post.ok ok (hd F)⟩⟩
/-! class methods -/
section
variable {X : Cx} {pins : List (Addr × Obj)} {σ : St} {H : Hp} {s : Shared} {k : Nat} {C p g : Addr} {mc : Value} {sp : Sp} {o e : Expr} {es : List Expr} {m : Str} {pos apos : Pos} {ta : TE} {t : TA} {pl : Sem Bool}
theorem run_cm {q : Addr} {Q : VK} {us : List Value} {vs : List V} (F : FnR X.prog X.w X.K X.mg X.base (CXX X) k g sp) (hr : Room k X.A) (tk : Takes X W) (I : Inv X ((q, PySem.W.methodObj (.ref g) (.ref C)) :: pins) σ H s) (r : Vals vs us) (h : sp (.ref C :: vs) H Q (WE W σ)) : wpAny (model X.prog X.w) X.A (call (.ref q) us) (EP X pins σ Q) X.xe s :=
  thn (wpAny_call (PySem.W.method_call (ClX.pin_at I) (run_fnRS (us := .ref C :: us) (vs := .ref C :: vs) F hr tk I (.cons rfl r) h))) fun _ _ y => ClX.unpinE y
def tCM (W : WX) (C : Addr) (sp : Sp) (ta : TE) (t : TA) : TE := fun σ H Q => ta σ H fun x H1 => x = .ref C ∧ t σ H1 fun vs H2 => sp (.ref C :: vs) H2 Q (WE W σ)
theorem pe_cm (he : PE X o ta) (r : ClX.CRead X.K C mc) (c : ClX.CMet X.K C mc m p g) (F : FnR X.prog X.w X.K X.mg X.base (CXX X) k g sp) (hr : Room k X.A) (tk : Takes X W) (ha : PA X (e :: es) t)
    (hst : starEach (e :: es) X.env = (false, eval e X.env) :: starEach es X.env := by rfl) (hpl : (backTo pos (starEach es X.env)).any (·.1) = false := by rfl)
    (ht : eval (.Call (.Attribute o m apos) (e :: es) [] pos) X.env = (do
      let ov ← eval o X.env
      standAt apos.atName
      let (f, first) ← holding [ov] (getMethod ov m pl)
      callWith pos f first (backTo pos (starEach (e :: es) X.env)) (backToKw pos (keywordEach [] X.env))) := by rfl) : PE X (.Call (.Attribute o m apos) (e :: es) [] pos) (tCM W C sp ta t) :=
  ⟨fun pins s σ H Q I h => PySem.W.methodCall_KW (pl := pl) (thn (he.run pins s σ H _ I h) fun u s1 ⟨x, H1, I1, rx, ex, q⟩ => by
    subst ex
    cases rx
    exact ClX.getmethcm_ok I1 r c fun s2 I2 => ClX.callwith_cm I2 (ClX.base_none I1 (Nat.le_refl _)) c.fi (thn (ha.run pos _ s2 σ H1 _ I2 q) fun us s3 ⟨vs, H2, I3, rv, q2⟩ => ⟨⟨ClX.pin_at I3, I3.kIn⟩, run_cm F hr tk I3 rv q2⟩) hst hpl) ht⟩
end
theorem pe_cm0 {o : Expr} {m : Str} {pos apos : Pos} {pl : Sem Bool} {k : Nat} {C p g : Addr} {mc : Value} {sp : Sp} {ta : TE} (he : PE X o ta) (r : ClX.CRead X.K C mc) (c : ClX.CMet X.K C mc m p g) (F : FnR X.prog X.w X.K X.mg X.base (CXX X) k g sp) (hr : Room k X.A) (tk : Takes X W)
    (ht : eval (.Call (.Attribute o m apos) [] [] pos) X.env = (do
      let ov ← eval o X.env
      standAt apos.atName
      let (f, first) ← holding [ov] (getMethod ov m pl)
      callWith pos f first (backTo pos (starEach [] X.env)) (backToKw pos (keywordEach [] X.env))) := by rfl) : PE X (.Call (.Attribute o m apos) [] [] pos) (tCM W C sp ta tNil) :=
  ⟨fun pins s σ H Q I h => PySem.W.methodCall_KW (pl := pl) (thn (he.run pins s σ H _ I h) fun u s1 ⟨x, H1, I1, rx, ex, q⟩ => by
    subst ex
    cases rx
    exact ClX.getmethcm_ok I1 r c fun s2 I2 => PySem.W.callWith_M0 (first := []) ⟨ClX.pin_at I2, I2.kIn⟩ c.fi (run_cm (us := []) F hr tk I2 .nil q)) ht⟩
def fCMeth (n : Nat) (f : Fm) (fa : FA) : FE := fun δ => (fa δ).bind fun ds δ1 => outE (f none (.cls n :: ds)) δ1
theorem d_cmeth0 {e : Expr} {n : Nat} {C : Addr} {f : Fm} (p : PE X e (tCM W C (spD M f) (tC (.ref C)) tNil)) (hG : M.G n = some C) : DE M W X e (fCMeth n f aNil) := by
  refine ⟨_, p, fun c F H σ δ Q ok post => ⟨rfl, ?_⟩⟩
  exact own_of (vs := [.ref C]) ok (reps_cons (by unfold rep; exact ⟨C, hG, rfl⟩) reps_nil) post
theorem d_cmeth {e : Expr} {es : List Expr} {n : Nat} {C : Addr} {f : Fm} {fa : FA} (mk : ∀ {t : TA}, PA X es t → PE X e (tCM W C (spD M f) (tC (.ref C)) t)) (hG : M.G n = some C) (ha : DA M W X es fa) : DE M W X e (fCMeth n f fa) := by
  obtain ⟨t, p, h⟩ := ha
  refine ⟨_, mk p, fun c F H σ δ Q ok post => ⟨rfl, h c F H σ δ _ ok (Post.bind post fun ds δ1 vs F1 H1 _ s1 ok1 rs post => ?_)⟩⟩
  exact own_of ok1 (reps_cons (by unfold rep; exact ⟨C, hG, rfl⟩) rs) post
end
/-! ### statements -/
def PostS (c : Cn M) (W : WX) (F : Hp) (r : SR) (E : Ends) : Prop := match r with
  | .nx δ' => ∀ F' H' σ', Same F F' → Ok c F' H' σ' δ' → E.nx σ' H'
  | .rt r δ' => ∀ v F' H' σ', Same F F' → Ok c F' H' σ' δ' → repR c F' H' σ' δ' r v → E.rt v H'
  | .bk δ' => ∀ F' H' σ', Same F F' → Ok c F' H' σ' δ' → E.bk σ' H'
  | .ct δ' => ∀ F' H' σ', Same F F' → Ok c F' H' σ' δ' → E.ct σ' H'
  | .exc x δ' => ∀ cls d F' H' σ', Same F F' → Ok c F' H' σ' δ' → xAt M F' x cls d H' → W cls d σ' H'
  | .bad => False
def DS (M : Gm) (W : WX) (X : Cx) (s : Stmt) (g : FS) : Prop := ∃ t, PS X s t ∧ ∀ (c : Cn M) F H σ δ E, Ok c F H σ δ → PostS c W F (g δ) E → t E σ H
def DSs (M : Gm) (W : WX) (X : Cx) (s : List Stmt) (g : FS) : Prop := ∃ t, PSs X s t ∧ ∀ (c : Cn M) F H σ δ E, Ok c F H σ δ → PostS c W F (g δ) E → t E σ H
def SR.bind (m : SR) (k : Sl → SR) : SR := match m with
  | .nx δ => k δ
  | r => r
@[simp] theorem SR.bind_nx (δ : Sl) (k : Sl → SR) : (SR.nx δ).bind k = k δ := rfl
@[simp] theorem SR.bind_rt (r : R) (δ : Sl) (k : Sl → SR) : (SR.rt r δ).bind k = .rt r δ := rfl
@[simp] theorem SR.bind_exc (r : XD) (δ : Sl) (k : Sl → SR) : (SR.exc r δ).bind k = .exc r δ := rfl
section
variable {M : Gm} {c : Cn M} {W : WX} {X : Cx} {F F1 H H1 : Hp} {σ : St} {δ : Sl}
theorem PostS.shift {r : SR} {E : Ends} (h : PostS c W F r E) (g : Same F F1) : PostS c W F1 r E := by
  cases r with
  | nx δ' => exact fun F' H' σ' s => h F' H' σ' (g.trans s)
  | rt r δ' => exact fun v F' H' σ' s => h v F' H' σ' (g.trans s)
  | bk δ' => exact fun F' H' σ' s => h F' H' σ' (g.trans s)
  | ct δ' => exact fun F' H' σ' s => h F' H' σ' (g.trans s)
  | exc x δ' => exact fun cls d F' H' σ' s => h cls d F' H' σ' (g.trans s)
  | bad => exact h
theorem PostS.bind {m : SR} {k : Sl → SR} {E : Ends} {N : St → Hp → Prop} (h : PostS c W F (m.bind k) E) (f : ∀ δ1 F1 H1 σ1, m = .nx δ1 → Same F F1 → Ok c F1 H1 σ1 δ1 → PostS c W F1 (k δ1) E → N σ1 H1) : PostS c W F m { E with nx := N } := by
  cases m with
  | nx δ' => exact fun F' H' σ' s ok => f δ' F' H' σ' rfl s ok (PostS.shift h s)
  | rt r δ' => exact h
  | bk δ' => exact h
  | ct δ' => exact h
  | exc x δ' => exact h
  | bad => exact h
theorem PostS.ofE {α β : Type} {ρ : Hp → Hp → Sl → α → β → Prop} {m : Res α} {k : α → Sl → SR} {E : Ends} {T : β → Hp → Prop} (h : PostS c W F (m.bindS k) E)
    (f : ∀ a δ1 v F1 H1, m = .ok a δ1 → Same F F1 → Ok c F1 H1 σ δ1 → ρ F1 H1 δ1 a v → PostS c W F1 (k a δ1) E → T v H1) : Post c W F σ ρ m T := by
  cases m with
  | ok a δ' => exact fun v F' H' s ok r => f a δ' v F' H' rfl s ok r (PostS.shift h s)
  | exc x δ' => exact fun cls d F' H' s ok r => h cls d F' H' σ s ok r
  | bad => exact h
def sSeq (f g : FS) : FS := fun δ => (f δ).bind g
def sNil : FS := fun δ => .nx δ
theorem dss_nil : DSs M W X [] sNil := ⟨_, pss_nil, fun c F H σ δ E ok post => post F H σ (Same.refl _) ok⟩
theorem dss_cons {s : Stmt} {ss : List Stmt} {f g : FS} (h : DS M W X s f) (h' : DSs M W X ss g) : DSs M W X (s :: ss) (sSeq f g) := by
  obtain ⟨t, p, h⟩ := h
  obtain ⟨t', p', h'⟩ := h'
  exact ⟨_, pss_cons p p', fun c F H σ δ E ok post => h c F H σ δ _ ok (PostS.bind post fun δ1 F1 H1 σ1 _ s1 ok1 post => h' c F1 H1 σ1 δ1 E ok1 post)⟩
theorem dss_one {s : Stmt} {f : FS} (h : DS M W X s f) : DSs M W X [s] f := by
  obtain ⟨t, p, h⟩ := h
  exact ⟨_, pss_one p, h⟩
def sRet (f : FE) : FS := fun δ => (f δ).bindS fun r δ1 => .rt r δ1
theorem ds_ret {e : Expr} {pos : Pos} {f : FE} (h : DE M W X e f) : DS M W X (.Return (some e) pos) (sRet f) := by
  obtain ⟨t, p, h⟩ := h
  exact ⟨_, ps_ret p, fun c F H σ δ E ok post => h c F H σ δ _ ok (PostS.ofE post fun r δ1 v F1 H1 _ s ok1 rr post => post v F1 H1 σ (Same.refl _) ok1 rr)⟩
theorem ds_pass {pos : Pos} : DS M W X (.Pass pos) sNil := ⟨_, ps_pass, fun c F H σ δ E ok post => post F H σ (Same.refl _) ok⟩
def sBrk : FS := fun δ => .bk δ
def sCnt : FS := fun δ => .ct δ
theorem ds_break {pos : Pos} : DS M W X (.Break pos) sBrk := ⟨_, ps_break, fun c F H σ δ E ok post => post F H σ (Same.refl _) ok⟩
theorem ds_continue {pos : Pos} : DS M W X (.Continue pos) sCnt := ⟨_, ps_continue, fun c F H σ δ E ok post => post F H σ (Same.refl _) ok⟩
def sExpr (f : FE) : FS := fun δ => (f δ).bindS fun _ δ1 => .nx δ1
theorem ds_expr {e : Expr} {pos : Pos} {f : FE} (h : DE M W X e f) (hs : swapsWith e none pos.line X.env = pure false := by rfl) : DS M W X (.Expr e pos) (sExpr f) := by
  obtain ⟨t, p, h⟩ := h
  exact ⟨_, ps_expr p hs, fun c F H σ δ E ok post => h c F H σ δ _ ok (PostS.ofE post fun r δ1 v F1 H1 _ s ok1 rr post => post F1 H1 σ (Same.refl _) ok1)⟩
def sIf (t : FT) (f g : FS) : FS := fun δ => (t δ).bindS fun b δ1 => if b then f δ1 else g δ1
theorem ds_if {e : Expr} {ss ss' : List Stmt} {pos : Pos} {t : FT} {f g : FS} (h : DT M W X e t) (ha : DSs M W X ss f) (hb : DSs M W X ss' g) : DS M W X (.If e ss ss' pos) (sIf t f g) := by
  obtain ⟨t, p, h⟩ := h
  obtain ⟨ta, pa, ha⟩ := ha
  obtain ⟨tb, pb, hb⟩ := hb
  refine ⟨_, ps_if p pa pb, fun c F H σ δ E ok post => h c F H σ δ _ ok (PostS.ofE post fun b δ1 k F1 H1 _ s ok1 e post => ?_)⟩
  cases (show b = k from e)
  cases b with
  | true => exact ha c F1 H1 σ δ1 E ok1 post
  | false => exact hb c F1 H1 σ δ1 E ok1 post
/-- code that is never reached: the mirror is bad -/
def sNev : FS := fun _ => .bad
theorem ds_never {s : Stmt} : DS M W X s sNev := ⟨_, ps_never, fun c F H σ δ E ok post => post⟩
/-! ### targets -/
def DG (M : Gm) (W : WX) (X : Cx) (tg : Expr) (h : R → Sl → SR) : Prop := ∃ g, PG X tg g ∧ ∀ (c : Cn M) F H σ δ v r (Q : St → Hp → Prop), Ok c F H σ δ → repR c F H σ δ r v → PostS c W F (h r δ) ⟨Q, fun _ _ => False, fun _ _ => False, fun _ _ => False⟩ → g v σ H Q
def tName (i : Nat) : R → Sl → SR := fun r δ => match r with
  | .brw _ => .bad
  | r => .nx (δ.set i (some r))
theorem dg_name {tg : Expr} {i : Nat} (h : PG X tg (gName i)) : DG M W X tg (tName i) := by
  refine ⟨_, h, fun c F H σ δ v r Q ok rr post => ?_⟩
  unfold tName at post
  cases r with
  | imm d => exact post F H _ (Same.refl _) (ok.setI i rr)
  | own o => exact post F H _ (Same.refl _) (ok.setO i rr)
  | brw o => exact post.elim
/-- several targets, the values frozen -/
def DGs (M : Gm) (W : WX) (X : Cx) (ts : List Expr) (h : List D → Sl → SR) : Prop := ∃ g, PGs X ts g ∧ ∀ (c : Cn M) F H σ δ vs ds (Q : St → Hp → Prop), Ok c F H σ δ → reps M F ds vs → PostS c W F (h ds δ) ⟨Q, fun _ _ => False, fun _ _ => False, fun _ _ => False⟩ → g vs σ H Q
def tsNil : List D → Sl → SR := fun ds δ => match ds with
  | [] => .nx δ
  | _ => .bad
def tsCons (h : R → Sl → SR) (hs : List D → Sl → SR) : List D → Sl → SR := fun ds δ => match ds with
  | d :: ds => (h (.imm d) δ).bind (hs ds)
  | [] => .bad
theorem dgs_nil : DGs M W X [] tsNil := ⟨_, pgs_nil, fun c F H σ δ vs ds Q ok rs post => by
  unfold tsNil at post
  split at post
  · unfold reps at rs
    exact ⟨rs, post F H σ (Same.refl _) ok⟩
  · exact post.elim⟩
theorem dgs_cons {e : Expr} {es : List Expr} {h : R → Sl → SR} {hs : List D → Sl → SR} (h1 : DG M W X e h) (h2 : DGs M W X es hs) (hq : (assignEach (e :: es) X.env).map (·.2) = assign e X.env :: (assignEach es X.env).map (·.2) := by rfl) : DGs M W X (e :: es) (tsCons h hs) := by
  obtain ⟨g, p, h1⟩ := h1
  obtain ⟨g', p', h2⟩ := h2
  refine ⟨_, pgs_cons p p' hq, fun c F H σ δ vs ds Q ok rs post => ?_⟩
  unfold tsCons at post
  split at post
  · rename_i d ds
    unfold reps at rs
    obtain ⟨v, r, rfl, k1, k2⟩ := rs
    exact ⟨v, r, rfl, h1 c F H σ δ v (.imm d) _ ok k1 (PostS.bind post fun δ1 F1 H1 σ1 _ s1 ok1 post => h2 c F1 H1 σ1 δ1 r ds Q ok1 (reps_mono s1 _ _ k2) post)⟩
  · exact post.elim
def tTup (n : Nat) (hs : List D → Sl → SR) : R → Sl → SR := fun r δ => match r with
  | .imm (.tup ds) => if ds.length = n then hs ds δ else .bad
  | _ => .bad
theorem dg_tup {es : List Expr} {k n : Nat} {pos : Pos} {hs : List D → Sl → SR} (hc : X.calm = true) (h : DGs M W X es hs) (hK : X.K = M.K := by rfl) (hn : (assignEach es X.env).length = n := by rfl) (hst : (assignEach es X.env).findIdx? (·.1) = none := by rfl) : DG M W X (.Tuple es k pos) (tTup n hs) := by
  obtain ⟨g, p, h⟩ := h
  refine ⟨_, pg_tup hc p hn hst, fun c F H σ δ v r Q ok rr post => ?_⟩
  unfold tTup at post
  split at post
  · split at post
    · rename_i ds hl
      have z : rep M F (.tup ds) v := rr
      unfold rep at z
      obtain ⟨a, vs, rfl, h2, h3⟩ := z
      exact ⟨a, vs, rfl, by rw [hK]; exact SqT.of (ok.same _ _ h2), by rw [reps_length h3]; exact hl, h c F H σ δ vs ds Q ok h3 post⟩
    · exact post.elim
  · exact post.elim
/-- x[i] = .., x a list or a dict in a slot -/
def rSetAll : V → V → V → Hp → (Hp → Prop) → Prop := fun o i v H Q => rSetL o i v H Q ∨ ∃ a H', o = .ref a ∧ DPut H a i v H' ∧ Q H'
theorem set_all (hu : X.A.units + 1 < cLine) : PSet X rSetAll := by
  intro pins s σ H o i v ov iv u Q I ro ri rv h
  rcases h with h | ⟨a, H', rfl, g, q⟩
  · exact set_list pins s σ H o i v ov iv u Q I ro ri rv h
  · obtain rfl : ov = Value.ref a := ro
    exact d_setItem hu I g ri rv fun s4 I4 => ⟨H', I4, q⟩
def repD {κ : Type} [DecidableEq κ] (k : κ) (d : D) : List κ → List D → List D
  | k' :: ks, d' :: ds => (if k' = k then d else d') :: repD k d ks ds
  | _, ds => ds
def putD {κ : Type} [DecidableEq κ] (ks : List κ) (ds : List D) (k : κ) (d : D) : List κ × List D := if (ks.any fun k' => decide (k' = k)) = true then (ks, repD k d ks ds) else (ks ++ [k], ds ++ [d])
theorem putD_v {M : Gm} {F : Hp} {κ : Type} [DecidableEq κ] {v : V} {d : D} (hv : rep M F d v) (k : κ) {kvs : List (κ × V)} {ds : List D} (h : reps M F ds (kvs.map (·.2))) : (putK kvs k v).map (·.1) = (putD (kvs.map (·.1)) ds k d).1 ∧ reps M F (putD (kvs.map (·.1)) ds k d).2 ((putK kvs k v).map (·.2)) := by
  unfold putK putD
  have e : ((kvs.map (·.1)).any fun k' => decide (k' = k)) = kvs.any fun kv => decide (kv.1 = k) := by rw [List.any_map]; rfl
  rw [e]
  by_cases hc : (kvs.any fun kv => decide (kv.1 = k)) = true
  · rw [if_pos hc, if_pos hc]
    clear hc e
    constructor
    · rw [List.map_map]
      refine List.map_congr_left fun p _ => ?_
      simp only [Function.comp]
      split <;> rfl
    · show reps M F (repD k d (kvs.map (·.1)) ds) _
      induction kvs generalizing ds with
      | nil =>
        unfold reps at h
        cases ds with
        | nil => simp [repD, reps]
        | cons d' ds => obtain ⟨_, _, z, _⟩ := h; cases z
      | cons p r ih =>
        cases ds with
        | nil => unfold reps at h; cases h
        | cons d' ds =>
          rw [List.map_cons, reps_cons_iff] at h
          simp only [List.map_cons, repD]
          refine reps_cons ?_ (ih h.2)
          by_cases z : p.1 = k
          · rw [if_pos z, if_pos z]; exact hv
          · rw [if_neg z, if_neg z]; exact h.1
  · rw [if_neg hc, if_neg hc]
    exact ⟨by simp, by rw [List.map_append]; exact reps_append h (reps_cons hv reps_nil)⟩
def setOB : OB → D → D → Option OB
  | .l ds, .int i, d => (ixN ds.length i).map fun j => .l (ds.set j d)
  | .dK ks ds, k, d => (keyOf k).bind fun k => if ds.length < 16777216 then some (.dK (putD ks ds k d).1 (putD ks ds k d).2) else none
  | _, _, _ => none
def tSub (x : Nat) (fi : FD) : R → Sl → SR := fun r δ => match r with
  | .imm d => (match δ[x]? with
    | some (some r0) => if r0.mu then (fi δ).bindS fun i δ1 => match δ1[x]? with
      | some (some (.own o)) => (match setOB o i d with
        | some o' => .nx (δ1.set x (some (.own o')))
        | none => .bad)
      | some (some (.brw o)) => (match setOB o i d with
        | some o' => .nx (δ1.set x (some (.brw o')))
        | none => .bad)
      | _ => .bad
      else .bad
    | _ => .bad)
  | _ => .bad
theorem setOB_ok {F H : Hp} {ob ob' : OB} {a : Addr} {vi vd : V} {di d : D} {Q : Hp → Prop} (s : Same F H) (hob : obAt M F H ob a) (ri : rep M F di vi) (rd : rep M F d vd) (e : setOB ob di d = some ob') (q : ∀ o, obAt M F (upd H a o) ob' a → Q (upd H a o)) : rSetAll (.ref a) vi vd H Q := by
  unfold setOB at e
  split at e
  · rename_i ds i
    obtain ⟨j, e1, rfl⟩ := Option.map_eq_some_iff.mp e
    obtain ⟨vs, h1, h2⟩ := hob
    unfold rep at ri
    refine .inl ⟨a, vs, i, j, rfl, ri, h1, by rw [reps_length h2]; exact e1, q _ ⟨_, upd_same, reps_set j h2 rd⟩⟩
  · rename_i ks ds k
    obtain ⟨kk, e1, e2⟩ := Option.bind_eq_some_iff.mp e
    split at e2
    · rename_i hl
      cases e2
      obtain ⟨kvs, h1, h2, h3⟩ := hob
      subst h2
      obtain ⟨p1, p2⟩ := putD_v rd kk h3
      have ek := keyOf_v (M := M) (H := H) (.inl ri) e1
      subst ek
      refine .inr ⟨a, _, rfl, DPut.k h1 ?_, q _ ⟨_, upd_same, p1, p2⟩⟩
      have z := reps_length h3
      rw [List.length_map] at z
      rw [z, sizeLine_eq]; exact hl
    · cases e2
  · cases e
theorem dg_sub {o ie : Expr} {x : Nat} {pos : Pos} {fi : FD} (ho : PE X o (tVar x)) (hi : DI M W X ie fi) (hu : X.A.units + 1 < cLine)
    (ha : ∀ v, assign (.Subscript o ie pos) X.env v = (do
      let ov ← holding [v] (eval o X.env)
      let iv ← holding [v, ov] (eval ie X.env)
      standAt pos
      holding [v, ov, iv] (setItem ov iv v)
      release [v, ov, iv] []) := by intro _; rfl) : DG M W X (.Subscript o ie pos) (tSub x fi) := by
  obtain ⟨ti, pi, hi⟩ := hi
  refine ⟨_, pg_sub ho pi (set_all hu) ha, fun c F H σ δ v r Q ok rr post => ?_⟩
  unfold tSub at post
  cases r with
  | own o => exact post.elim
  | brw o => exact post.elim
  | imm d =>
    simp only at post
    split at post
    · rename_i r0 q0
      split at post
      · rename_i hm
        obtain ⟨a, ob0, ea, _, _, _⟩ := ok.mus q0 hm
        refine ⟨.ref a, ea, hi c F H σ δ _ ok (PostS.ofE post fun di δ1 vi F1 H1 _ s1 ok1 ri post => ?_)⟩
        split at post
        · rename_i ob q1
          split at post
          · rename_i ob' e1
            obtain ⟨a', ob1, ea', hf, hob, hk⟩ := ok1.mus q1 rfl
            rw [ea] at ea'; cases ea'
            rcases hk with ⟨z, _⟩ | ⟨z, _⟩ <;> cases z
            refine setOB_ok ok1.same hob ri (rep_mono s1 _ _ rr) e1 fun o' hob' => post F1 _ σ (Same.refl _) (ok1.write q1 (.inl ⟨rfl, rfl⟩) ea hob')
          · exact post.elim
        · rename_i ob q1
          split at post
          · rename_i ob' e1
            obtain ⟨a', ob1, ea', hf, hob, hk⟩ := ok1.mus q1 rfl
            rw [ea] at ea'; cases ea'
            rcases hk with ⟨z, _⟩ | ⟨z, _⟩ <;> cases z
            refine setOB_ok ok1.same hob ri (rep_mono s1 _ _ rr) e1 fun o' hob' => post F1 _ σ (Same.refl _) (ok1.write q1 (.inr ⟨rfl, rfl⟩) ea hob')
          · exact post.elim
        · exact post.elim
      · exact post.elim
    · exact post.elim
def sAsg (f : FE) (h : R → Sl → SR) : FS := fun δ => (f δ).bindS h
theorem asg_of {t : TE} {g : TG} {f : FE} {h : R → Sl → SR} (he : RE M W t f) (hg : ∀ (c : Cn M) F H σ δ v r (Q : St → Hp → Prop), Ok c F H σ δ → repR c F H σ δ r v → PostS c W F (h r δ) ⟨Q, fun _ _ => False, fun _ _ => False, fun _ _ => False⟩ → g v σ H Q)
    (hn : ∀ r δ, (∃ δ', h r δ = .nx δ') ∨ (∃ x δ', h r δ = .exc x δ') ∨ h r δ = .bad) : ∀ (c : Cn M) F H σ δ E, Ok c F H σ δ → PostS c W F (sAsg f h δ) E → tAsg t g E σ H := fun c F H σ δ E ok post =>
  he c F H σ δ _ ok (PostS.ofE post fun r δ1 v F1 H1 _ s ok1 rr post => hg c F1 H1 σ δ1 v r _ ok1 rr (by
    rcases hn r δ1 with ⟨δ', e⟩ | ⟨x, δ', e⟩ | e
    · rw [e] at post ⊢; exact post
    · rw [e] at post ⊢; exact post
    · rw [e] at post ⊢; exact post))
/-- a target's mirror only goes on, raises or is bad -/
def Tgt (h : R → Sl → SR) : Prop := ∀ r δ, (∃ δ', h r δ = .nx δ') ∨ (∃ x δ', h r δ = .exc x δ') ∨ h r δ = .bad
def Tgs (h : List D → Sl → SR) : Prop := ∀ r δ, (∃ δ', h r δ = .nx δ') ∨ (∃ x δ', h r δ = .exc x δ') ∨ h r δ = .bad
theorem tgt_name (i : Nat) : Tgt (tName i) := fun r δ => by
  unfold tName
  cases r with
  | imm d => exact .inl ⟨_, rfl⟩
  | own d => exact .inl ⟨_, rfl⟩
  | brw d => exact .inr (.inr rfl)
theorem tgs_nil : Tgs tsNil := fun r δ => by
  unfold tsNil
  cases r with
  | nil => exact .inl ⟨_, rfl⟩
  | cons d ds => exact .inr (.inr rfl)
theorem tgs_cons {h : R → Sl → SR} {hs : List D → Sl → SR} (h1 : Tgt h) (h2 : Tgs hs) : Tgs (tsCons h hs) := fun r δ => by
  unfold tsCons
  cases r with
  | nil => exact .inr (.inr rfl)
  | cons d ds =>
    simp only
    rcases h1 (.imm d) δ with ⟨δ', e⟩ | ⟨x, δ', e⟩ | e
    · rw [e]; exact h2 ds δ'
    · rw [e]; exact .inr (.inl ⟨x, δ', rfl⟩)
    · rw [e]; exact .inr (.inr rfl)
theorem tgt_tup {n : Nat} {hs : List D → Sl → SR} (h : Tgs hs) : Tgt (tTup n hs) := fun r δ => by
  unfold tTup
  split
  · split
    · exact h _ _
    · exact .inr (.inr rfl)
  · exact .inr (.inr rfl)
theorem tgt_sub {x : Nat} {fi : FD} : Tgt (tSub x fi) := fun r δ => by
  unfold tSub
  split
  · split
    · split
      · cases fi δ with
        | bad => exact .inr (.inr rfl)
        | exc x δ' => exact .inr (.inl ⟨x, δ', rfl⟩)
        | ok d δ1 =>
          simp only [Res.bindS_ok]
          split
          · split
            · exact .inl ⟨_, rfl⟩
            · exact .inr (.inr rfl)
          · split
            · exact .inl ⟨_, rfl⟩
            · exact .inr (.inr rfl)
          · exact .inr (.inr rfl)
      · exact .inr (.inr rfl)
    · exact .inr (.inr rfl)
  · exact .inr (.inr rfl)
theorem ds_asg {tg e : Expr} {pos : Pos} {f : FE} {h : R → Sl → SR} (he : DE M W X e f) (hg : DG M W X tg h) (hn : Tgt h) (hs : swapsWithSole [tg] e pos.line X.env = pure false := by rfl) (hw : swappedStores [tg] e X.env = pure none := by rfl)
    (h1 : (assignEach [tg] X.env).map (·.2) = [assign tg X.env] := by rfl) : DS M W X (.Assign [tg] e pos) (sAsg f h) := by
  obtain ⟨t, p, he⟩ := he
  obtain ⟨g, pg, hg⟩ := hg
  exact ⟨_, ps_asg p pg hs hw h1, asg_of he hg hn⟩
/-- name = e -/
theorem ds_set {i : Nat} {x : Str} {e : Expr} {pos pos' : Pos} {f : FE} (hN : X.N.Nodup) (hi : X.N[i]? = some x) (hx : Loc X.env.scope x) (he : DE M W X e f) (hs : swapsWith e (some (.Name x pos')) pos.line X.env = pure false := by rfl) (hf : X.fn x = true ∨ X.env.scope.names.lookup x = some .local := by first | exact .inl rfl | exact .inr rfl | assumption) :
    DS M W X (.Assign [.Name x pos'] e pos) (sAsg f (tName i)) := by
  obtain ⟨t, p, he⟩ := he
  refine ⟨_, ps_set hN hi hx p hs hf, asg_of he (fun c F H σ δ v r Q ok rr post => ?_) (tgt_name i)⟩
  unfold tName at post
  cases r with
  | imm d => exact post F H _ (Same.refl _) (ok.setI i rr)
  | own o => exact post F H _ (Same.refl _) (ok.setO i rr)
  | brw o => exact post.elim
/-- the context in which the own thing at a is held aside -/
def Cn.guard (c : Cn M) (a : Addr) (o : HO) (hn : NT o) : Cn M := ⟨c.F0, fun b => if b = a then some o else c.H0 b, c.io, fun b h => by
  by_cases e : b = a
  · simp [e]
  · simp only [if_neg e]; exact c.iob b h, fun b u h => by
  by_cases e : b = a
  · simp only [if_pos e] at h; cases h; exact hn
  · simp only [if_neg e] at h; exact c.nt b u h⟩
theorem Ok.guard {a : Addr} {o : HO} (ok : Ok c F H σ δ) (hF : F a = none) (h0 : c.H0 a = none) (ho : H a = some o) (hn : NT o) (hns : ∀ (i : Nat) (r : R), δ[i]? = some (some r) → r.mu = true → σ[i]? ≠ some (some (V.ref a))) : Ok (c.guard a o hn) F H σ δ := by
  have hio : c.io ≠ some a := fun z => c.iob a z h0
  have g0 : ∀ b, b ≠ a → (c.guard a o hn).H0 b = c.H0 b := fun b hb => if_neg hb
  refine ⟨ok.same, ok.grow, fun b e1 e2 => ?_, fun b u e1 e2 => ?_, ok.ioh, ok.tb, ok.len, fun i r e => ?_, ok.dist⟩
  · by_cases z : b = a
    · rw [z]; exact hF
    · rw [g0 b z] at e1; exact ok.nofz b e1 e2
  · by_cases z : b = a
    · subst z
      have : (c.guard b o hn).H0 b = some o := if_pos rfl
      rw [this] at e1; cases e1
      exact ho
    · rw [g0 b z] at e1; exact ok.kept b u e1 e2
  · obtain ⟨v, e1, e2⟩ := ok.slot i r e
    refine ⟨v, e1, ?_⟩
    cases r with
    | imm d => exact e2
    | own ob =>
      obtain ⟨b, rfl, k1, k2, k3⟩ := e2
      have z : b ≠ a := fun z => hns i _ e rfl (by rw [e1, z])
      exact ⟨b, rfl, k1, by rw [g0 b z]; exact k2, k3⟩
    | brw ob => exact e2
theorem Ok.unguard {a : Addr} {o : HO} {hn : NT o} (ok : Ok (c.guard a o hn) F H σ δ) (h0 : c.H0 a = none) : Ok c F H σ δ ∧ (c.F0 a = none → F a = none) ∧ H a = some o ∧ (∀ (i : Nat) (r : R), δ[i]? = some (some r) → r.mu = true → σ[i]? ≠ some (some (V.ref a))) := by
  have hio : c.io ≠ some a := fun z => c.iob a z h0
  have g0 : ∀ b, b ≠ a → (c.guard a o hn).H0 b = c.H0 b := fun b hb => if_neg hb
  have ga : (c.guard a o hn).H0 a = some o := if_pos rfl
  have ne : ∀ b, c.H0 b ≠ none → b ≠ a := fun b h z => h (z ▸ h0)
  refine ⟨⟨ok.same, ok.grow, fun b e1 e2 => ok.nofz b (by rw [g0 b (ne b e1)]; exact e1) e2, fun b u e1 e2 => ok.kept b u (by rw [g0 b (ne b (by rw [e1]; exact fun z => by cases z))]; exact e1) e2, ok.ioh, ok.tb, ok.len, fun i r e => ?_, ok.dist⟩, fun hF => ok.nofz a (by rw [ga]; exact fun z => by cases z) hF, ok.kept a o ga hio, fun i r e m z => ?_⟩
  · obtain ⟨v, e1, e2⟩ := ok.slot i r e
    refine ⟨v, e1, ?_⟩
    cases r with
    | imm d => exact e2
    | own ob =>
      obtain ⟨b, rfl, k1, k2, k3⟩ := e2
      have z : b ≠ a := fun z => by rw [z, ga] at k2; cases k2
      exact ⟨b, rfl, k1, by rw [← g0 b z]; exact k2, k3⟩
    | brw ob => exact e2
  · obtain ⟨b, ob, e1, e2, e3, e4⟩ := ok.mus e m
    rw [e1] at z; cases z
    rcases e4 with ⟨_, k⟩ | ⟨_, k⟩
    · rw [ga] at k; cases k
    · exact hio k
def sPar (i j : Nat) (f g : FE) : FS := fun δ => (f δ).bindS fun r δ1 => match r with
  | .brw _ => .bad
  | r => (g δ1).bindS fun r' δ2 => match r' with
    | .brw _ => .bad
    | r' => .nx ((δ2.set i (some r)).set j (some r'))
theorem repR_setI {d : D} {v w : V} {r : R} {i : Nat} (h : repR c F H σ δ r w) : repR c F H (σ.set i (some v)) (δ.set i (some (.imm d))) r w := by
  cases r with
  | imm d' => exact h
  | brw o => exact h
  | own o =>
    obtain ⟨a, rfl, h1, h2, h3, h4⟩ := h
    refine ⟨a, rfl, h1, h2, h3, fun k r e m => ?_⟩
    rcases getElem?_set_some e with ⟨_, z, _⟩ | ⟨hn, e⟩
    · cases z; cases m
    · rw [List.getElem?_set_ne hn]; exact h4 k r e m
theorem ds_par {i j : Nat} {x y : Str} {a b : Expr} {f g : FE} {px py pt pos : Pos} {kt k2 pt2} (hc : X.calm = true) (hN : X.N.Nodup) (hi : X.N[i]? = some x) (hj : X.N[j]? = some y) (hij : i ≠ j)
    (hx : X.env.scope.names.lookup x = some .local) (hy : X.env.scope.names.lookup y = some .local) (ha : DE M W X a f) (hb : DE M W X b g)
    (hw : swappedStores [.Tuple [.Name x px, .Name y py] kt pt] (.Tuple [a, b] k2 pt2) X.env = pure (some [x, y]))
    (hs : swapsWithSole [.Tuple [.Name x px, .Name y py] kt pt] (.Tuple [a, b] k2 pt2) pos.line X.env = pure false := by rfl)
    (h1 : starEach (a :: [b]) X.env = (false, eval a X.env) :: starEach [b] X.env := by rfl) (h2 : starEach (b :: []) X.env = (false, eval b X.env) :: starEach [] X.env := by rfl) :
    DS M W X (.Assign [.Tuple [.Name x px, .Name y py] kt pt] (.Tuple [a, b] k2 pt2) pos) (sPar i j f g) := by
  obtain ⟨t, p, ha⟩ := ha
  obtain ⟨t', p', hb⟩ := hb
  refine ⟨_, ps_par hc hN hi hj hij hx hy (pa_cons p (pa_cons p' pa_nil h2) h1) hw hs, fun c F H σ δ E ok post => ha c F H σ δ _ ok (PostS.ofE post fun r δ1 v F1 H1 _ s1 ok1 rr post => ?_)⟩
  cases r with
  | brw o => exact post.elim
  | imm d =>
    refine hb c F1 H1 σ δ1 _ ok1 (PostS.ofE post fun r' δ2 w F2 H2 _ s2 ok2 rr' post => ⟨v, w, rfl, ?_⟩)
    have rv : rep M F2 d v := rep_mono s2 _ _ rr
    cases r' with
    | brw o => exact post.elim
    | imm d' => exact post F2 H2 _ (Same.refl _) ((ok2.setI i rv).setI j rr')
    | own o' => exact post F2 H2 _ (Same.refl _) ((ok2.setI i rv).setO j (repR_setI rr'))
  | own o =>
    obtain ⟨a, rfl, k1, k2, k3, k4⟩ := rr
    obtain ⟨u, hu, hn⟩ := obAt_nt k3
    have okg := ok1.guard k1 k2 hu hn k4
    have f0 : c.F0 a = none := by
      cases z : c.F0 a with
      | none => rfl
      | some q => rw [ok1.grow a q z] at k1; cases k1
    have un : ∀ {F2 H2 : Hp} {δ2 : Sl}, Same F1 F2 → Ok (c.guard a u hn) F2 H2 σ δ2 → Ok c F2 H2 σ δ2 ∧ repR c F2 H2 σ δ2 (.own o) (.ref a) := fun {F2 H2 δ2} g ok2 => by
      obtain ⟨q1, q2, q3, q4⟩ := ok2.unguard k2
      exact ⟨q1, a, rfl, q2 f0, k2, obAt_mono g (q3.trans hu.symm) k3, q4⟩
    refine hb (c.guard a u hn) F1 H1 σ δ1 _ okg ?_
    cases q : g δ1 with
    | bad => rw [q] at post; exact post
    | exc x δ2 => rw [q] at post; exact fun cls d F2 H2 g ok2 xa => post cls d F2 H2 σ g (un g ok2).1 xa
    | ok r' δ2 =>
      rw [q] at post
      intro w F2 H2 s2 ok2 rr'
      refine ⟨.ref a, w, rfl, ?_⟩
      obtain ⟨ok3, ro⟩ := un s2 ok2
      cases r' with
      | brw o => exact post.elim
      | imm d' => exact post F2 H2 _ s2 ((ok3.setO i ro).setI j rr')
      | own o' =>
        obtain ⟨b, rfl, l1, l2, l3, l4⟩ := rr'
        have hba : b ≠ a := fun z => by
          have : (c.guard a u hn).H0 a = some u := if_pos rfl
          rw [z, this] at l2; cases l2
        have l2' : c.H0 b = none := by
          have : (c.guard a u hn).H0 b = c.H0 b := if_neg hba
          rw [← this]; exact l2
        refine post F2 H2 _ s2 ((ok3.setO i ro).setO j ⟨b, rfl, l1, l2', l3, fun k r e m => ?_⟩)
        rcases getElem?_set_some e with ⟨rfl, z, hl⟩ | ⟨hn, e⟩
        · rw [List.getElem?_set_self (by rw [ok3.len]; exact hl)]
          intro z; cases z; exact hba rfl
        · rw [List.getElem?_set_ne hn]; exact l4 k r e m
end
end
end TS

set_option maxRecDepth 100000
set_option maxHeartbeats 4000000
/-! TS8: loops, comprehensions, defs. -/
namespace TS
open PySem L2
noncomputable section
/-! ### what is walked -/
def Walks (M : Gm) (J : It) (F : Hp) (ds : List D) : Prop := ∀ (i : Nat) (H : Hp), Same F H →
  (∀ d, ds[i]? = some d → J.go i H ∧ ∀ x H', J.yld i H x H' → (H' = H ∧ rep M F d x) ∨ (∃ p ws es, H p = none ∧ x = V.ref p ∧ H' = upd H p (.tup ws) ∧ d = .tup es ∧ reps M F es ws)) ∧ (ds[i]? = none → J.stop i H)
abbrev ρI (M : Gm) : Hp → Hp → Sl → List D → It → Prop := fun F _ _ ds J => Walks M J F ds
def DIt (M : Gm) (W : WX) (X : Cx) (tg e : Expr) (f : FA) : Prop := ∃ wi, PI X tg e wi ∧ ∀ (c : Cn M) F H σ δ (Q : It → Hp → Prop), Ok c F H σ δ → Post c W F σ (ρI M) (f δ) Q → wi σ H Q
section
variable {M : Gm} {c : Cn M} {W : WX} {X : Cx} {tg e : Expr} {F F1 H H1 : Hp} {σ : St} {δ : Sl}
theorem walks_list {a : Addr} {vs : List V} {ds : List D} (hK : X.K = M.K) (hF : F a = some (.lst vs)) (r : reps M F ds vs) : Walks M (Itl X.K a) F ds := fun i H s => by
  have hq : SqL X.K H a vs := SqL.of (s _ _ hF)
  refine ⟨fun d hd => ?_, fun hn => ⟨vs, hq, by rw [reps_length r]; exact List.getElem?_eq_none_iff.mp hn⟩⟩
  obtain ⟨v, e1, e2⟩ := reps_get r hd
  refine ⟨⟨vs, v, hq, e1⟩, fun x H' y => .inl ⟨y.1, ?_⟩⟩
  have := y.2 vs hq
  rw [e1] at this; cases this
  exact e2
theorem walks_tup {a : Addr} {vs : List V} {ds : List D} (hK : X.K = M.K) (hF : SqT M.K F a vs) (r : reps M F ds vs) : Walks M (Itt X.K a) F ds := fun i H s => by
  have hq : SqT X.K H a vs := by rw [hK]; exact Same.seqT s hF
  refine ⟨fun d hd => ?_, fun hn => ⟨vs, hq, by rw [reps_length r]; exact List.getElem?_eq_none_iff.mp hn⟩⟩
  obtain ⟨v, e1, e2⟩ := reps_get r hd
  refine ⟨⟨vs, v, hq, e1⟩, fun x H' y => .inl ⟨y.1, ?_⟩⟩
  have := y.2 vs hq
  rw [e1] at this; cases this
  exact e2
theorem rgD_get {lo : Int} {n i : Nat} : ((List.range n).map fun i => D.int (lo + (i : Nat)))[i]? = if i < n then some (.int (lo + (i : Nat))) else none := by
  rw [List.getElem?_map]
  by_cases h : i < n
  · rw [if_pos h, List.getElem?_range h]; rfl
  · rw [if_neg h, List.getElem?_eq_none (by simpa using h)]; rfl
theorem walks_range (lo : Int) (n : Nat) : Walks M (Itr lo n) F ((List.range n).map fun i => D.int (lo + (i : Nat))) := fun i H s => by
  rw [rgD_get]
  refine ⟨fun d hd => ?_, fun hn => ?_⟩
  · by_cases h : i < n
    · rw [if_pos h] at hd
      cases hd
      refine ⟨h, fun x H' y => .inl ⟨y.1, ?_⟩⟩
      rw [y.2]; exact rep_int' _
    · rw [if_neg h] at hd; cases hd
  · by_cases h : i < n
    · rw [if_pos h] at hn; cases hn
    · exact Nat.le_of_not_lt h
def enumD (k : Nat) : List D → List D
  | [] => []
  | d :: ds => .tup [.int k, d] :: enumD (k + 1) ds
theorem enumD_get : ∀ (ds : List D) (k i : Nat), (enumD k ds)[i]? = (ds[i]?).map fun d => .tup [.int ((k + i : Nat) : Int), d]
  | [], k, i => by simp [enumD]
  | d :: ds, k, 0 => by simp [enumD]
  | d :: ds, k, i + 1 => by
    simp only [enumD, List.getElem?_cons_succ]
    rw [enumD_get ds (k + 1) i]
    have : k + 1 + i = k + (i + 1) := by omega
    rw [this]
theorem walks_enum {a : Addr} {vs : List V} {ds : List D} (hK : X.K = M.K) (hF : F a = some (.lst vs)) (r : reps M F ds vs) : Walks M (Ite X.K a) F (enumD 0 ds) := fun i H s => by
  have hq : SqL X.K H a vs := SqL.of (s _ _ hF)
  rw [enumD_get]
  refine ⟨fun d hd => ?_, fun hn => ⟨vs, hq, ?_⟩⟩
  · obtain ⟨d0, hd0, rfl⟩ := Option.map_eq_some_iff.mp hd
    obtain ⟨v, e1, e2⟩ := reps_get r hd0
    refine ⟨⟨vs, v, hq, e1⟩, fun x H' y => .inr ?_⟩
    obtain ⟨T, x0, k1, k2, k3, k4⟩ := y
    have := k4 vs hq
    rw [e1] at this; cases this
    exact ⟨T, _, _, k2, k1, k3, rfl, reps_cons (by rw [Nat.zero_add]; exact rep_int' _) (reps_cons e2 reps_nil)⟩
  · rw [reps_length r]
    exact List.getElem?_eq_none_iff.mp (by simpa using hn)
def zipD : List D → List D → List D
  | a :: as, b :: bs => .tup [a, b] :: zipD as bs
  | _, _ => []
theorem zipD_get : ∀ (as bs : List D) (i : Nat), (zipD as bs)[i]? = match as[i]?, bs[i]? with | some a, some b => some (.tup [a, b]) | _, _ => none
  | [], bs, i => by simp [zipD]
  | a :: as, [], i => by
    simp only [zipD]
    cases (a :: as)[i]? <;> simp
  | a :: as, b :: bs, 0 => by simp [zipD]
  | a :: as, b :: bs, i + 1 => by
    simp only [zipD, List.getElem?_cons_succ]
    exact zipD_get as bs i
theorem walks_zip {a b : Addr} {vs ws : List V} {ds es : List D} (hK : X.K = M.K) (hF : F a = some (.lst vs)) (r : reps M F ds vs) (hF' : F b = some (.lst ws)) (r' : reps M F es ws) : Walks M (Itz X.K a b) F (zipD ds es) := fun i H s => by
  have hq : SqL X.K H a vs := SqL.of (s _ _ hF)
  have hq' : SqL X.K H b ws := SqL.of (s _ _ hF')
  rw [zipD_get]
  refine ⟨fun d hd => ?_, fun hn => ⟨vs, ws, hq, hq', ?_⟩⟩
  · split at hd
    · rename_i x y h1 h2
      cases hd
      obtain ⟨v, e1, e2⟩ := reps_get r h1
      obtain ⟨w, f1, f2⟩ := reps_get r' h2
      refine ⟨⟨vs, ws, v, w, hq, hq', e1, f1⟩, fun x H' y => .inr ?_⟩
      obtain ⟨T, x0, y0, k1, k2, k3, k4, k5⟩ := y
      have := k4 vs hq
      rw [e1] at this; cases this
      have := k5 ws hq'
      rw [f1] at this; cases this
      exact ⟨T, _, _, k2, k1, k3, rfl, reps_cons e2 (reps_cons f2 reps_nil)⟩
    · cases hd
  · rw [reps_length r, reps_length r']
    by_cases h1 : ds.length ≤ i
    · exact .inl h1
    · right
      have h1' : i < ds.length := Nat.lt_of_not_le h1
      rw [List.getElem?_eq_getElem h1'] at hn
      cases h2 : es[i]? with
      | none => exact List.getElem?_eq_none_iff.mp h2
      | some y => rw [h2] at hn; cases hn
def itSeq (f : FD) : FA := fun δ => (f δ).bind fun d δ => match d with
  | .lst ds => .ok ds δ
  | _ => .bad
def itTup (f : FD) : FA := fun δ => (f δ).bind fun d δ => match d with
  | .tup ds => .ok ds δ
  | _ => .bad
def itRg1 (f : FD) : FA := fun δ => (f δ).bind fun d δ => match d with
  | .int n => if gd (-4611686018427387904 ≤ n ∧ n < 4611686018427387904) then .ok (rgD 0 n) δ else .bad
  | _ => .bad
def itRg2 (f g : FD) : FA := fun δ => (f δ).bind fun d δ => (g δ).bind fun d' δ => match d, d' with
  | .int m, .int n => if gd (-4611686018427387904 ≤ m ∧ m < 4611686018427387904 ∧ -4611686018427387904 ≤ n ∧ n < 4611686018427387904) then .ok (rgD m n) δ else .bad
  | _, _ => .bad
def itEnum (f : FD) : FA := fun δ => (f δ).bind fun d δ => match d with
  | .lst ds => .ok (enumD 0 ds) δ
  | _ => .bad
def itZip (f g : FD) : FA := fun δ => (f δ).bind fun d δ => (g δ).bind fun d' δ => match d, d' with
  | .lst m, .lst n => .ok (zipD m n) δ
  | _, _ => .bad
theorem dit_list {f : FD} (h : DI M W X e f) (hK : X.K = M.K := by rfl) : DIt M W X tg e (itSeq f) := by
  obtain ⟨t, p, h⟩ := h
  refine ⟨_, pi_list p, fun c F H σ δ Q ok post => h c F H σ δ _ ok (Post.bind post fun d δ1 v F1 H1 _ s1 ok1 r post => ?_)⟩
  split at post
  · unfold ρD rep at r
    obtain ⟨a, vs, rfl, h2, h3⟩ := r
    exact ⟨a, rfl, ⟨vs, SqL.of (ok1.same _ _ h2)⟩, post.ok ok1 (walks_list hK h2 h3)⟩
  · exact post.elim
theorem dit_tup {f : FD} (h : DI M W X e f) (hK : X.K = M.K := by rfl) : DIt M W X tg e (itTup f) := by
  obtain ⟨t, p, h⟩ := h
  refine ⟨_, pi_tup p, fun c F H σ δ Q ok post => h c F H σ δ _ ok (Post.bind post fun d δ1 v F1 H1 _ s1 ok1 r post => ?_)⟩
  split at post
  · unfold ρD rep at r
    obtain ⟨a, vs, rfl, h2, h3⟩ := r
    exact ⟨a, rfl, ⟨vs, by rw [hK]; exact SqT.of (ok1.same _ _ h2)⟩, post.ok ok1 (walks_tup hK (SqT.of h2) h3)⟩
  · exact post.elim
theorem dit_rg1 {a : Expr} {f : FD} {p pos : Pos} (hg : Gl X "range") (hm : X.mg "range" = none) (h : DI M W X a f) (hs : starEach [a] X.env = [(false, eval a X.env)] := by rfl) (hs2 : starEach (a :: []) X.env = (false, eval a X.env) :: starEach [] X.env := by rfl) : DIt M W X tg (.Call (.Name "range" p) [a] [] pos) (itRg1 f) := by
  obtain ⟨t, pp, h⟩ := h
  refine ⟨_, pi_range1 hg hm (pa_cons pp pa_nil hs2) hs, fun c F H σ δ Q ok post => h c F H σ δ _ ok (Post.bind post fun d δ1 v F1 H1 _ s1 ok1 r post => ?_)⟩
  split at post
  · rename_i n _
    split at post
    · rename_i hc
      obtain ⟨h1, h2⟩ := of_gd hc
      unfold ρD rep at r
      subst r
      refine ⟨n, rfl, by omega, by omega, post.ok ok1 ?_⟩
      have := walks_range (M := M) (F := F1) 0 n.toNat
      unfold rgD
      rw [Int.sub_zero]
      exact this
    · exact post.elim
  · exact post.elim
theorem dit_rg2 {a b : Expr} {f g : FD} {p pos : Pos} (hg : Gl X "range") (hm : X.mg "range" = none) (h : DI M W X a f) (h' : DI M W X b g) (hs : starEach [a, b] X.env = [(false, eval a X.env), (false, eval b X.env)] := by rfl) (hs2 : starEach [b] X.env = [(false, eval b X.env)] := by rfl)
    (hs3 : starEach (a :: [b]) X.env = (false, eval a X.env) :: starEach [b] X.env := by rfl) (hs4 : starEach (b :: []) X.env = (false, eval b X.env) :: starEach [] X.env := by rfl) : DIt M W X tg (.Call (.Name "range" p) [a, b] [] pos) (itRg2 f g) := by
  obtain ⟨t, pp, h⟩ := h
  obtain ⟨t', pp', h'⟩ := h'
  refine ⟨_, pi_range2 hg hm (pa_cons pp (pa_cons pp' pa_nil hs4) hs3) hs hs2, fun c F H σ δ Q ok post => h c F H σ δ _ ok (Post.bind post fun d δ1 v F1 H1 _ s1 ok1 r post => h' c F1 H1 σ δ1 _ ok1 (Post.bind post fun d' δ2 v' F2 H2 _ s2 ok2 r' post => ?_))⟩
  obtain ⟨m, rfl⟩ : ∃ m, d = .int m := by cases d <;> first | exact ⟨_, rfl⟩ | exact post.elim
  obtain ⟨n, rfl⟩ : ∃ n, d' = .int n := by cases d' <;> first | exact ⟨_, rfl⟩ | exact post.elim
  simp only at post
  split at post
  · rename_i hc
    obtain ⟨h1, h2, h3, h4⟩ := of_gd hc
    unfold ρD rep at r r'
    subst r
    subst r'
    exact ⟨m, n, rfl, ⟨by omega, by omega, by omega, by omega⟩, post.ok ok2 (walks_range (M := M) (F := F2) m (n - m).toNat)⟩
  · exact post.elim
theorem dit_enum {a : Expr} {f : FD} {p pos tpos : Pos} {elts : List Expr} {kk : Nat} (hg : Gl X "enumerate") (hm : X.mg "enumerate" = none) (h : DI M W X a f) (hK : X.K = M.K := by rfl) (hs : starEach [a] X.env = [(false, eval a X.env)] := by rfl) (hs2 : starEach (a :: []) X.env = (false, eval a X.env) :: starEach [] X.env := by rfl) :
    DIt M W X (.Tuple elts kk tpos) (.Call (.Name "enumerate" p) [a] [] pos) (itEnum f) := by
  obtain ⟨t, pp, h⟩ := h
  refine ⟨_, pi_enum hg hm (pa_cons pp pa_nil hs2) hs, fun c F H σ δ Q ok post => h c F H σ δ _ ok (Post.bind post fun d δ1 v F1 H1 _ s1 ok1 r post => ?_)⟩
  split at post
  · unfold ρD rep at r
    obtain ⟨a, vs, rfl, h2, h3⟩ := r
    exact ⟨a, vs, rfl, SqL.of (ok1.same _ _ h2), post.ok ok1 (walks_enum hK h2 h3)⟩
  · exact post.elim
theorem dit_zip {a b : Expr} {f g : FD} {p pos tpos : Pos} {elts : List Expr} {kk : Nat} (hg : Gl X "zip") (hm : X.mg "zip" = none) (h : DI M W X a f) (h' : DI M W X b g) (hK : X.K = M.K := by rfl)
    (hs : starEach [a, b] X.env = (false, eval a X.env) :: starEach [b] X.env := by rfl) (hpl : (backTo pos (starEach [b] X.env)).any (·.1) = false := by rfl) (hs4 : starEach (b :: []) X.env = (false, eval b X.env) :: starEach [] X.env := by rfl) :
    DIt M W X (.Tuple elts kk tpos) (.Call (.Name "zip" p) [a, b] [] pos) (itZip f g) := by
  obtain ⟨t, pp, h⟩ := h
  obtain ⟨t', pp', h'⟩ := h'
  refine ⟨_, pi_zip hg hm (pa_cons pp (pa_cons pp' pa_nil hs4) hs) hs hpl, fun c F H σ δ Q ok post => h c F H σ δ _ ok (Post.bind post fun d δ1 v F1 H1 _ s1 ok1 r post => h' c F1 H1 σ δ1 _ ok1 (Post.bind post fun d' δ2 v' F2 H2 _ s2 ok2 r' post => ?_))⟩
  obtain ⟨m, rfl⟩ : ∃ m, d = .lst m := by cases d <;> first | exact ⟨_, rfl⟩ | exact post.elim
  obtain ⟨n, rfl⟩ : ∃ n, d' = .lst n := by cases d' <;> first | exact ⟨_, rfl⟩ | exact post.elim
  simp only at post
  have r := rep_mono s2 _ _ r
  unfold rep at r
  unfold ρD rep at r'
  obtain ⟨a, vs, rfl, h2, h3⟩ := r
  obtain ⟨b, ws, rfl, k2, k3⟩ := r'
  exact ⟨a, b, vs, ws, rfl, SqL.of (ok2.same _ _ h2), SqL.of (ok2.same _ _ k2), post.ok ok2 (walks_zip hK h2 h3 k2 k3)⟩
/-! ### for -/
def forL (tg : R → Sl → SR) (body : FS) : List D → FS
  | [], δ => .nx δ
  | d :: ds, δ => match (tg (.imm d) δ).bind body with
    | .nx δ' => forL tg body ds δ'
    | .ct δ' => forL tg body ds δ'
    | .bk δ' => .nx δ'
    | r => r
def sFor (fi : FA) (tg : R → Sl → SR) (body : FS) : FS := fun δ => (fi δ).bindS fun ds δ1 => forL tg body ds δ1
/-- an item comes -/
theorem Walks.turn {J : It} {F0 : Hp} {ds : List D} (w : Walks M J F0 ds) (g : Same F0 F) (ok : Ok c F H σ δ) {i : Nat} {d : D} (hd : ds[i]? = some d) : J.go i H ∧ ∀ x H', J.yld i H x H' → ∃ F', Same F F' ∧ Ok c F' H' σ δ ∧ rep M F' d x := by
  obtain ⟨h1, h2⟩ := (w i H (g.trans ok.same)).1 d hd
  refine ⟨h1, fun x H' y => ?_⟩
  rcases h2 x H' y with ⟨rfl, r⟩ | ⟨p, ws, es, k1, k2, k3, k4, k5⟩
  · exact ⟨F, Same.refl _, ok, rep_mono g _ _ r⟩
  · subst k2 k3 k4
    exact new_tup ok k1 (reps_mono g _ _ k5)
theorem ds_for {iter : Expr} {ss : List Stmt} {pos : Pos} {fi : FA} {ft : R → Sl → SR} {body : FS} (hp : PassesOwn (model X.prog X.w) X.A X.env X.xe) (hc : X.calm = true) (hi : DIt M W X tg iter fi) (hg : DG M W X tg ft) (hn : Tgt ft) (hb : DSs M W X ss body)
    (hs : ∀ x, foldedSetIterable iter X.env x = pure x := by intro _; rfl) : DS M W X (.For tg iter ss [] pos) (sFor fi ft body) := by
  obtain ⟨wi, pi, hi⟩ := hi
  obtain ⟨g, pg, hg⟩ := hg
  obtain ⟨tb, pb, hb⟩ := hb
  refine ⟨_, ps_for hp hc pi pg pb hs, fun c F H σ δ E ok post => hi c F H σ δ _ ok (PostS.ofE post fun ds δ1 J F1 H1 _ s1 ok1 wk post => ?_)⟩
  refine ⟨fun i m σ H => i ≤ ds.length ∧ m = ds.length - i ∧ ∃ F' δ', Same F1 F' ∧ Ok c F' H σ δ' ∧ PostS c W F' (forL ft body (ds.drop i) δ') E, ⟨ds.length, Nat.zero_le _, rfl, F1, δ1, Same.refl _, ok1, post⟩, ?_⟩
  rintro i m σ2 H2 ⟨hi, rfl, F2, δ2, g2, ok2, post⟩
  by_cases hl : i < ds.length
  · right
    have hd : ds[i]? = some ds[i] := List.getElem?_eq_getElem hl
    obtain ⟨k1, k2⟩ := Walks.turn wk g2 ok2 hd
    refine ⟨k1, fun σ' H' => ∃ F' δ', Same F1 F' ∧ Ok c F' H' σ' δ' ∧ PostS c W F' (forL ft body (ds.drop (i + 1)) δ') E, fun σ' H' h => ⟨ds.length - (i + 1), by omega, by omega, rfl, h⟩, fun x H' y => ?_⟩
    obtain ⟨F3, g3, ok3, r3⟩ := k2 x H' y
    rw [List.drop_eq_getElem_cons hl] at post
    unfold forL at post
    refine hg c F3 H' σ2 δ2 x (.imm ds[i]) _ ok3 r3 ?_
    have post := PostS.shift post g3
    rcases hn (.imm ds[i]) δ2 with ⟨δ3, e3⟩ | ⟨xx, δ3, e3⟩ | e3
    · rw [e3] at post ⊢
      simp only [SR.bind_nx] at post
      intro F4 H4 σ4 g4 ok4
      refine hb c F4 H4 σ4 δ3 _ ok4 ?_
      have post := PostS.shift post g4
      have gg : Same F1 F4 := (g2.trans g3).trans g4
      cases q : body δ3 with
      | nx δ5 => rw [q] at post; exact fun F5 H5 σ5 g5 ok5 => ⟨F5, δ5, gg.trans g5, ok5, PostS.shift post g5⟩
      | ct δ5 => rw [q] at post; exact fun F5 H5 σ5 g5 ok5 => ⟨F5, δ5, gg.trans g5, ok5, PostS.shift post g5⟩
      | bk δ5 => rw [q] at post; exact post
      | rt r δ5 => rw [q] at post; exact post
      | exc x δ5 => rw [q] at post; exact post
      | bad => rw [q] at post; exact post
    · rw [e3] at post ⊢; exact post
    · rw [e3] at post; exact post.elim
  · left
    have hi' : i = ds.length := by omega
    subst hi'
    refine ⟨(wk _ H2 (g2.trans ok2.same)).2 (List.getElem?_eq_none (Nat.le_refl _)), ?_⟩
    rw [List.drop_length] at post
    exact post F2 H2 σ2 (Same.refl _) ok2
/-! ### while -/
def whileL (t : FT) (body : FS) : Nat → FS
  | 0, _ => .bad
  | n + 1, δ => (t δ).bindS fun b δ1 => if b then (match body δ1 with
    | .nx δ' => whileL t body n δ'
    | .ct δ' => whileL t body n δ'
    | .bk δ' => .nx δ'
    | r => r) else .nx δ1
def sWhile (μ : Sl → Nat) (t : FT) (body : FS) : FS := fun δ => whileL t body (μ δ) δ
theorem ds_while {cnd : Expr} {ss : List Stmt} {pos : Pos} {t : FT} {body : FS} (μ : Sl → Nat) (hp : PassesOwn (model X.prog X.w) X.A X.env X.xe) (hc : DT M W X cnd t) (hb : DSs M W X ss body) : DS M W X (.While cnd ss [] pos) (sWhile μ t body) := by
  obtain ⟨tc, pc, hc⟩ := hc
  obtain ⟨tb, pb, hb⟩ := hb
  refine ⟨_, ps_while hp pc pb, fun c F H σ δ E ok post => ?_⟩
  refine ⟨fun m σ H => ∃ F' δ', Same F F' ∧ Ok c F' H σ δ' ∧ PostS c W F' (whileL t body m δ') E, ⟨μ δ, F, δ, Same.refl _, ok, post⟩, ?_⟩
  rintro m σ2 H2 ⟨F2, δ2, g2, ok2, post⟩
  cases m with
  | zero => exact post.elim
  | succ n =>
    unfold whileL at post
    refine hc c F2 H2 σ2 δ2 _ ok2 (PostS.ofE post fun b δ3 k F3 H3 _ g3 ok3 e post => ?_)
    cases (show b = k from e)
    cases b with
    | false => exact post F3 H3 σ2 (Same.refl _) ok3
    | true =>
      refine ⟨fun σ' H' => ∃ F' δ', Same F F' ∧ Ok c F' H' σ' δ' ∧ PostS c W F' (whileL t body n δ') E, fun σ' H' h => ⟨n, Nat.lt_succ_self n, h⟩, hb c F3 H3 σ2 δ3 _ ok3 ?_⟩
      have gg : Same F F3 := g2.trans g3
      cases q : body δ3 with
      | nx δ5 => simp only [q, if_true] at post; exact fun F5 H5 σ5 g5 ok5 => ⟨F5, δ5, gg.trans g5, ok5, PostS.shift post g5⟩
      | ct δ5 => simp only [q, if_true] at post; exact fun F5 H5 σ5 g5 ok5 => ⟨F5, δ5, gg.trans g5, ok5, PostS.shift post g5⟩
      | bk δ5 => simp only [q, if_true] at post; exact post
      | rt r δ5 => simp only [q, if_true] at post; exact post
      | exc x δ5 => simp only [q, if_true] at post; exact post
      | bad => simp only [q, if_true] at post; exact post
end
end
end TS

set_option maxRecDepth 100000
set_option maxHeartbeats 4000000
/-! TS9: comprehensions, defs. -/
namespace TS
open PySem L2
noncomputable section
abbrev W0 : WX := fun _ _ _ _ => False
def canD (M : Gm) (W : WX) (f : FD) : TE := fun σ H Q => ∃ (c : Cn M) (F : Hp) (δ : Sl), Ok c F H σ δ ∧ Post c W F σ (ρD c) (f δ) Q
def canT (M : Gm) (W : WX) (f : FT) : TT := fun σ H Q => ∃ (c : Cn M) (F : Hp) (δ : Sl), Ok c F H σ δ ∧ Post c W F σ ρT (f δ) Q
section
variable {M : Gm} {c : Cn M} {W : WX} {X : Cx} {tg e : Expr} {F F1 H H1 : Hp} {σ : St} {δ : Sl}
theorem DI.can {f : FD} (h : DI M W X e f) : PE X e (canD M W f) := by
  obtain ⟨t, p, h⟩ := h
  exact ⟨fun pins s σ H Q I ⟨c, F, δ, ok, post⟩ => p.run pins s σ H Q I (h c F H σ δ Q ok post)⟩
theorem DT.can {f : FT} (h : DT M W X e f) : PT X e (canT M W f) := by
  obtain ⟨t, p, h⟩ := h
  exact ⟨fun pins s σ H Q I ⟨c, F, δ, ok, post⟩ => p.run pins s σ H Q I (h c F H σ δ Q ok post)⟩
def wipeD (δ : Sl) : List Nat → Sl
  | [] => δ
  | v :: vs => (wipeD δ vs).set v none
theorem Ok.clr (ok : Ok c F H σ δ) (i : Nat) : Ok c F H (σ.set i none) (δ.set i none) where
  same := ok.same
  grow := ok.grow
  nofz := ok.nofz
  kept := ok.kept
  ioh := ok.ioh
  tb := ok.tb
  len := by simp [ok.len]
  slot := fun j r e => by
    rcases getElem?_set_some e with ⟨_, z, _⟩ | ⟨hn, e⟩
    · cases z
    · rw [List.getElem?_set_ne hn]; exact ok.slot j r e
  dist := fun j k r1 r2 w hjk e1 e2 m1 m2 s1 s2 => by
    rcases getElem?_set_some e1 with ⟨_, z, _⟩ | ⟨hn, e1⟩
    · cases z
    · rcases getElem?_set_some e2 with ⟨_, z, _⟩ | ⟨hn2, e2⟩
      · cases z
      · rw [List.getElem?_set_ne hn] at s1
        rw [List.getElem?_set_ne hn2] at s2
        exact ok.dist j k r1 r2 w hjk e1 e2 m1 m2 s1 s2
theorem Ok.wipe (ok : Ok c F H σ δ) : ∀ vs : List Nat, Ok c F H (L2.wipe σ vs) (wipeD δ vs)
  | [] => ok
  | v :: vs => (Ok.wipe ok vs).clr v
theorem Ok.unwipe {vs : List Nat} (ok : Ok c F H (L2.wipe σ vs) δ) : Ok c F H σ δ where
  same := ok.same
  grow := ok.grow
  nofz := ok.nofz
  kept := ok.kept
  ioh := ok.ioh
  tb := ok.tb
  len := by rw [← ok.len, wipe_length]
  slot := fun j r e => by
    obtain ⟨v, e1, e2⟩ := ok.slot j r e
    exact ⟨v, (wipe_some e1).1, e2⟩
  dist := fun j k r1 r2 w hjk e1 e2 m1 m2 s1 s2 => by
    obtain ⟨v, k1, _⟩ := ok.slot j r1 e1
    obtain ⟨v', k2, _⟩ := ok.slot k r2 e2
    have z1 := (wipe_some k1).1
    have z2 := (wipe_some k2).1
    rw [s1] at z1; cases z1
    rw [s2] at z2; cases z2
    exact ok.dist j k r1 r2 w hjk e1 e2 m1 m2 k1 k2
/-- what stands aside may be written -/
theorem Ok.poke (ok : Ok c F H σ δ) {p : Addr} {o : HO} (hp : ∀ u, H p = some u → NT u) (hF : F p = none) (h0 : c.H0 p = none) (hns : ∀ (i : Nat) (r : R), δ[i]? = some (some r) → r.mu = true → σ[i]? ≠ some (some (V.ref p))) : Ok c F (upd H p o) σ δ where
  same := fun b u e => by
    have : b ≠ p := fun z => by rw [z, hF] at e; cases e
    rw [upd_ne this]; exact ok.same b u e
  grow := ok.grow
  nofz := ok.nofz
  kept := fun b u e hi => by
    have : b ≠ p := fun z => by rw [z, h0] at e; cases e
    rw [upd_ne this]; exact ok.kept b u e hi
  ioh := fun a e => by
    have q : a ≠ p := fun z => c.iob a e (z ▸ h0)
    rw [upd_ne q]; exact ok.ioh a e
  tb := ok.tb.keep (fun b u e z => by rw [upd_ne (fun (y : b = p) => z (hp u (by rw [← y]; exact e)))]; exact e) (fun _ _ _ _ q => q) ok.tb.nt
  len := ok.len
  slot := fun i r e => by
    obtain ⟨v, e1, e2⟩ := ok.slot i r e
    refine ⟨v, e1, ?_⟩
    cases r with
    | imm d => exact e2
    | own ob =>
      obtain ⟨a, rfl, h1, h2, h3⟩ := e2
      have : a ≠ p := fun z => hns i _ e rfl (by rw [e1, z])
      exact ⟨a, rfl, h1, h2, obAt_mono (Same.refl _) (upd_ne this) h3⟩
    | brw ob =>
      obtain ⟨a, rfl, h1, h2, h3⟩ := e2
      have : a ≠ p := fun z => hns i _ e rfl (by rw [e1, z])
      exact ⟨a, rfl, h1, h2, obAt_mono (Same.refl _) (upd_ne this) h3⟩
  dist := ok.dist
theorem f0_none (ok : Ok c F H σ δ) {a : Addr} (h : F a = none) : c.F0 a = none := by
  cases z : c.F0 a with
  | none => rfl
  | some q => rw [ok.grow a q z] at h; cases h

/-! ### comprehensions -/
def noX {α : Type} (r : Res α) : Res α := match r with
  | .exc _ _ => .bad
  | r => r
/-- one turn after another; setT: the item's names are set; vs: the block's own slots -/
def lcL (setT : D → Sl → Option Sl) (vs : List Nat) (ft : FT) (fe : FD) : List D → List D → Sl → Res (List D)
  | [], acc, δ => .ok acc δ
  | d :: ds, acc, δ => match setT d δ with
    | none => .bad
    | some δ0 => (noX (ft δ0)).bind fun b δ1 => if b then (noX (fe δ1)).bind fun y δ2 => if acc.length < 16777216 then lcL setT vs ft fe ds (acc ++ [y]) (wipeD δ2 vs) else .bad else lcL setT vs ft fe ds acc (wipeD δ1 vs)
def freeS (δ : Sl) (i : Nat) : Bool := match δ[i]? with
  | some none => true
  | some (some (.imm _)) => true
  | _ => false
def restD (δ1 : Sl) : List Nat → Sl → Sl
  | [], δ => δ
  | v :: vs, δ => restD δ1 vs (δ.set v ((δ1[v]?).join))
def fLc (setT : D → Sl → Option Sl) (vs : List Nat) (fi : FA) (ft : FT) (fe : FD) : FE := fun δ => (fi δ).bind fun ds δ1 => if vs.all (freeS δ1) then
    (lcL setT vs ft fe ds [] (wipeD δ1 vs)).bind fun acc δ2 => .ok (.own (.l acc)) (restD δ1 vs δ2) else .bad
def SetT (M : Gm) (vs : List Nat) (g : TG) (setT : D → Sl → Option Sl) : Prop := ∀ (c : Cn M) (F H : Hp) (σ : St) (δ δ' : Sl) (x : V) (d : D) (k : St → Hp → Prop), Ok c F H σ δ → rep M F d x → setT d δ = some δ' → L2.wipe σ vs = σ →
  (∀ σ2, Ok c F H σ2 δ' → L2.wipe σ2 vs = σ → k σ2 H) → g x σ H k
theorem restD_ok {δ1 : Sl} (ok1 : Ok c F1 H1 σ δ1) (g : Same F1 F) : ∀ (vs : List Nat) {δ : Sl}, vs.all (freeS δ1) = true → Ok c F H σ δ → Ok c F H σ (restD δ1 vs δ) ∧ (∀ (i : Nat) (r : R), (restD δ1 vs δ)[i]? = some (some r) → r.mu = true → ∃ r0, δ[i]? = some (some r0) ∧ r0.mu = true)
  | [], δ, _, ok => ⟨ok, fun i r e m => ⟨r, e, m⟩⟩
  | v :: vs, δ, hf, ok => by
    rw [List.all_cons, Bool.and_eq_true] at hf
    have key : Ok c F H σ (δ.set v ((δ1[v]?).join)) ∧ (∀ (i : Nat) (r : R), (δ.set v ((δ1[v]?).join))[i]? = some (some r) → r.mu = true → ∃ r0, δ[i]? = some (some r0) ∧ r0.mu = true) := by
      have h := hf.1
      unfold freeS at h
      split at h
      · rename_i q
        rw [q]
        refine ⟨ok.drop v, fun i r e m => ?_⟩
        rcases getElem?_set_some e with ⟨_, z, _⟩ | ⟨_, e⟩
        · cases z
        · exact ⟨r, e, m⟩
      · rename_i d q
        rw [q]
        obtain ⟨w, e1, e2⟩ := ok1.slot v _ q
        refine ⟨ok.setSame e1 (rep_mono g _ _ e2), fun i r e m => ?_⟩
        rcases getElem?_set_some e with ⟨_, z, _⟩ | ⟨_, e⟩
        · have z' : (R.imm d) = r := by simpa using z
          subst z'; cases m
        · exact ⟨r, e, m⟩
      · cases h
    obtain ⟨k1, k2⟩ := restD_ok ok1 g vs hf.2 key.1
    refine ⟨k1, fun i r e m => ?_⟩
    obtain ⟨r0, e0, m0⟩ := k2 i r e m
    exact key.2 i r0 e0 m0
theorem wipe_idem (σ : St) : ∀ vs : List Nat, L2.wipe (L2.wipe σ vs) vs = L2.wipe σ vs := fun vs => by
  apply List.ext_getElem?
  intro j
  by_cases hj : j ∈ vs
  · have key : ∀ (τ : St) (us : List Nat), j ∈ us → (L2.wipe τ us)[j]? = if j < τ.length then some none else none := by
      intro τ us
      induction us with
      | nil => intro h; cases h
      | cons u us ih =>
        intro h
        unfold L2.wipe
        by_cases e : u = j
        · subst e
          by_cases hl : u < τ.length
          · rw [List.getElem?_set_self (by rw [wipe_length]; exact hl), if_pos hl]
          · rw [if_neg hl, List.getElem?_eq_none (by rw [List.length_set, wipe_length]; omega)]
        · rw [List.getElem?_set_ne e]
          rcases List.mem_cons.mp h with z | z
          · exact absurd z.symm e
          · exact ih z
    rw [key _ _ hj, key _ _ hj, wipe_length]
  · rw [wipe_out hj]
theorem lc_read {wi : TI} {g : TG} {fi : FA} {ft : FT} {fe : FD} {setT : D → Sl → Option Sl} {vs : List Nat} (hi : ∀ (c : Cn M) F H σ δ (Q : It → Hp → Prop), Ok c F H σ δ → Post c W F σ (ρI M) (fi δ) Q → wi σ H Q) (hg : SetT M vs g setT) :
    RE M W (tLc wi g (canT M W0 ft) (canD M W0 fe) vs) (fLc setT vs fi ft fe) := fun c F H σ δ Q ok post => by
  refine hi c F H σ δ _ ok (Post.bind post fun ds δ1 J F1 H1 _ s1 ok1 wk post => fun D hD => ?_)
  split at post
  · rename_i hfree
    have okA : Ok c F1 (upd H1 D (.lst [])) σ δ1 := ok1.alloc hD
    have okW : Ok c F1 (upd H1 D (.lst [])) (L2.wipe σ vs) (wipeD δ1 vs) := okA.wipe vs
    have h0 : c.H0 D = none := ok1.h0 hD
    refine ⟨fun k m H => k ≤ ds.length ∧ m = ds.length - k ∧ ∃ F' δ' acc as, Same F1 F' ∧ Ok c F' H (L2.wipe σ vs) δ' ∧ F' D = none ∧ H D = some (.lst as) ∧ reps M F' acc as ∧
        (∀ (i : Nat) (r : R), δ'[i]? = some (some r) → r.mu = true → (L2.wipe σ vs)[i]? ≠ some (some (V.ref D))) ∧
        Post c W F' σ (ρR c σ) ((lcL setT vs ft fe (ds.drop k) acc δ').bind fun acc δ2 => .ok (.own (.l acc)) (restD δ1 vs δ2)) Q,
      ⟨ds.length, Nat.zero_le _, rfl, F1, wipeD δ1 vs, [], [], Same.refl _, okW, ok1.f hD, upd_same, reps_nil, ?_, post⟩, ?_⟩
    · intro i r e m z
      obtain ⟨v, k1, k2⟩ := okW.slot i r e
      rw [k1] at z; cases z
      have k3 := (wipe_some k1).1
      -- the slot's object stood before D
      cases r with
      | imm d => cases m
      | own o =>
        obtain ⟨a, ea, q1, q2, q3⟩ := k2
        cases ea
        have ok1w := (ok1.wipe vs).slot i _ e
        obtain ⟨v', z1, a', ea', w1, w2, w3⟩ := ok1w
        rw [k1] at z1; cases z1; cases ea'
        obtain ⟨u, hu⟩ := obAt_some w3
        rw [hD] at hu; cases hu
      | brw o =>
        obtain ⟨a, ea, q1, q2, q3⟩ := k2
        cases ea
        have ok1w := (ok1.wipe vs).slot i _ e
        obtain ⟨v', z1, a', ea', w1, w2, w3⟩ := ok1w
        rw [k1] at z1; cases z1; cases ea'
        obtain ⟨u, hu⟩ := obAt_some w3
        rw [hD] at hu; cases hu
    rintro k m H2 ⟨hk, rfl, F2, δ2, acc, as, g2, ok2, f2, d2, r2, n2, post⟩
    by_cases hl : k < ds.length
    · right
      have hd : ds[k]? = some ds[k] := List.getElem?_eq_getElem hl
      -- the list is held aside while the item comes and while the block runs
      have okg := ok2.guard f2 h0 d2 rfl n2
      obtain ⟨k1, k2⟩ := Walks.turn wk g2 okg hd
      rw [List.drop_eq_getElem_cons hl] at post
      unfold lcL at post
      refine ⟨k1, fun H' => ∃ F' δ' acc as, Same F1 F' ∧ Ok c F' H' (L2.wipe σ vs) δ' ∧ F' D = none ∧ H' D = some (.lst as) ∧ reps M F' acc as ∧
        (∀ (i : Nat) (r : R), δ'[i]? = some (some r) → r.mu = true → (L2.wipe σ vs)[i]? ≠ some (some (V.ref D))) ∧
        Post c W F' σ (ρR c σ) ((lcL setT vs ft fe (ds.drop (k + 1)) acc δ').bind fun acc δ2 => .ok (.own (.l acc)) (restD δ1 vs δ2)) Q, fun H' h => ⟨ds.length - (k + 1), by omega, by omega, rfl, h⟩, fun x H' y => ?_⟩
      obtain ⟨F3, g3, ok3, r3⟩ := k2 x H' y
      split at post
      · exact post.elim
      · rename_i δ0 e0
        refine hg (c.guard D (.lst as) rfl) F3 H' (L2.wipe σ vs) δ2 δ0 x ds[k] _ ok3 r3 e0 (wipe_idem σ vs) fun σ2 okS hw => ⟨hw, ?_⟩
        refine ⟨c.guard D (.lst as) rfl, F3, δ0, okS, ?_⟩
        cases q : ft δ0 with
        | bad => rw [q] at post; exact post.elim
        | exc x δ => rw [q] at post; exact post.elim
        | ok b δ4 =>
          rw [q] at post
          intro b' F4 H4 g4 ok4 eb
          cases (show b = b' from eb)
          have post : Post c W F2 σ (ρR c σ) ((if b then (noX (fe δ4)).bind fun y δ2 => if acc.length < 16777216 then lcL setT vs ft fe (ds.drop (k + 1)) (acc ++ [y]) (wipeD δ2 vs) else .bad else lcL setT vs ft fe (ds.drop (k + 1)) acc (wipeD δ4 vs)).bind fun acc δ2 => .ok (.own (.l acc)) (restD δ1 vs δ2)) Q := post
          cases b with
          | false =>
            obtain ⟨q1, q2, q3, q4⟩ := ok4.unguard h0
            have qw := q1.wipe vs
            rw [hw] at qw
            refine ⟨F4, wipeD δ4 vs, acc, as, (g2.trans g3).trans g4, qw, q2 (f0_none ok2 f2), q3, reps_mono (g3.trans g4) _ _ r2, fun i r e m z => ?_, Post.shift post (g3.trans g4)⟩
            obtain ⟨v, z1, z2⟩ := qw.slot i r e
            rw [z1] at z; cases z
            rw [← hw] at z1
            have z3 := (wipe_some z1)
            have e' : δ4[i]? = some (some r) := by
              have key : ∀ (us : List Nat), i ∉ us → (wipeD δ4 us)[i]? = δ4[i]? := by
                intro us
                induction us with
                | nil => intro _; rfl
                | cons u us ih =>
                  intro h
                  simp only [List.mem_cons, not_or] at h
                  unfold wipeD
                  rw [List.getElem?_set_ne (Ne.symm h.1)]
                  exact ih h.2
              rw [key vs z3.2] at e
              exact e
            exact q4 i r e' m z3.1
          | true =>
            refine ⟨c.guard D (.lst as) rfl, F4, δ4, ok4, ?_⟩
            cases q5 : fe δ4 with
            | bad => rw [q5] at post; exact post.elim
            | exc x δ => rw [q5] at post; exact post.elim
            | ok yd δ5 =>
              rw [q5] at post
              intro y F5 H5 g5 ok5 ry
              have post : Post c W F2 σ (ρR c σ) ((if acc.length < 16777216 then lcL setT vs ft fe (ds.drop (k + 1)) (acc ++ [yd]) (wipeD δ5 vs) else .bad).bind fun acc δ2 => .ok (.own (.l acc)) (restD δ1 vs δ2)) Q := post
              obtain ⟨q1, q2, q3, q4⟩ := ok5.unguard h0
              split at post
              · rename_i hlen
                have r5 : reps M F5 acc as := reps_mono ((g3.trans g4).trans g5) _ _ r2
                have f5 := q2 (f0_none ok2 f2)
                refine ⟨as, q3, by rw [reps_length r5, sizeLine_eq]; exact hlen, ?_⟩
                have qp : Ok c F5 (upd H5 D (.lst (as ++ [y]))) σ2 δ5 := q1.poke (fun u e => by rw [q3] at e; cases e; rfl) f5 h0 q4
                have qw := qp.wipe vs
                rw [hw] at qw
                refine ⟨F5, wipeD δ5 vs, acc ++ [yd], as ++ [y], ((g2.trans g3).trans g4).trans g5, qw, f5, upd_same, reps_append r5 (reps_cons ry reps_nil), fun i r e m z => ?_, Post.shift post ((g3.trans g4).trans g5)⟩
                obtain ⟨v, z1, z2⟩ := qw.slot i r e
                rw [z1] at z; cases z
                rw [← hw] at z1
                have z3 := (wipe_some z1)
                have e' : δ5[i]? = some (some r) := by
                  have key : ∀ (us : List Nat), i ∉ us → (wipeD δ5 us)[i]? = δ5[i]? := by
                    intro us
                    induction us with
                    | nil => intro _; rfl
                    | cons u us ih =>
                      intro h
                      simp only [List.mem_cons, not_or] at h
                      unfold wipeD
                      rw [List.getElem?_set_ne (Ne.symm h.1)]
                      exact ih h.2
                  rw [key vs z3.2] at e
                  exact e
                exact q4 i r e' m z3.1
              · exact post.elim
    · left
      have hk' : k = ds.length := by omega
      subst hk'
      refine ⟨(wk _ H2 (g2.trans ok2.same)).2 (List.getElem?_eq_none (Nat.le_refl _)), ?_⟩
      rw [List.drop_length] at post
      unfold lcL at post
      simp only [Res.bind_ok] at post
      have ok3 : Ok c F2 H2 σ δ2 := ok2.unwipe
      obtain ⟨ok4, m4⟩ := restD_ok ok1 g2 vs hfree ok3
      refine post.ok ok4 ⟨D, rfl, f2, h0, ⟨as, d2, r2⟩, fun i r e m z => ?_⟩
      obtain ⟨r0, e0, m0⟩ := m4 i r e m
      obtain ⟨v, z1, z2⟩ := ok2.slot i r0 e0
      have z3 := (wipe_some z1).1
      rw [z] at z3; cases z3
      exact n2 i r0 e0 m0 z1
  · exact post.elim
/-! targets of a comprehension -/
def stName (i : Nat) : D → Sl → Option Sl := fun d δ => some (δ.set i (some (.imm d)))
theorem st_name (i : Nat) : SetT M [i] (gName i) (stName i) := fun c F H σ δ δ' x d k ok r e hw q => by
  cases e
  refine q _ (ok.setI i r) ?_
  show (σ.set i (some x)).set i none = σ
  rw [List.set_set]
  exact hw
def stPair (i j : Nat) : D → Sl → Option Sl := fun d δ => match d with
  | .tup [a, b] => some ((δ.set i (some (.imm a))).set j (some (.imm b)))
  | _ => none
theorem st_pair {i j : Nat} (hij : i ≠ j) : SetT M [i, j] (gTup M.K 2 (gCons (gName i) (gCons (gName j) gNil))) (stPair i j) := fun c F H σ δ δ' x d k ok r e hw q => by
  unfold stPair at e
  split at e
  · rename_i a b
    cases e
    unfold rep at r
    obtain ⟨p, vs, rfl, h2, h3⟩ := r
    unfold reps at h3
    obtain ⟨v, r1, rfl, k1, h3⟩ := h3
    unfold reps at h3
    obtain ⟨w, r2, rfl, k2, h3⟩ := h3
    unfold reps at h3
    subst h3
    refine ⟨p, _, rfl, SqT.of (ok.same _ _ h2), rfl, v, _, rfl, w, _, rfl, rfl, q _ ((ok.setI i k1).setI j k2) ?_⟩
    show (((σ.set i (some v)).set j (some w)).set j none).set i none = σ
    rw [List.set_set, List.set_comm _ _ hij, List.set_set, List.set_comm _ _ (Ne.symm hij)]
    have : (σ.set j none).set i none = σ := hw
    rw [List.set_comm _ _ hij]
    exact this
  · cases e
abbrev blkX (X : Cx) (scope : Scope) : Shared → Hp → Addr → List (Str × Addr) → List Addr → Cx := fun s H C cl fp => X.blk s H scope (compEnvC scope cl C X.env) fp
theorem de_lc {elt iter : Expr} {ifs : List Expr} {scope : Scope} {own : List (Str × Nat)} {pos : Pos} {g : TG} {fi : FA} {ft : FT} {fe : FD} {setT : D → Sl → Option Sl} {vs : List Nat} (hvs : own.map (·.2) = vs) (hc : X.calm = true) (hN : X.N.Nodup) (hi : DIt M W X tg iter fi) (ok : BlkOk X.N X.env.scope scope own)
    (hS : SetT M vs g setT) (hg : ∀ s H C cl fp, PG (blkX X scope s H C cl fp) tg g) (ht : ∀ s H C cl fp, PTs (blkX X scope s H C cl fp) ifs (canT M W0 ft)) (he : ∀ s H C cl fp, DI M W0 (blkX X scope s H C cl fp) elt fe) (hs : ∀ x, foldedSetIterable iter X.env x = pure x := by intro _; rfl) :
    DE M W X (.ListComp elt [⟨tg, iter, ifs, 0⟩] scope pos) (fLc setT vs fi ft fe) := by
  obtain ⟨wi, pi, hi⟩ := hi
  subst hvs
  exact ⟨_, pe_lc hc hN pi ok hg ht (fun s H C cl fp => (he s H C cl fp).can) hs, lc_read hi hS⟩
def tTrue : FT := fun δ => .ok true δ
theorem pts_no {X : Cx} : PTs X [] (canT M W0 tTrue) := ⟨fun pins s σ H Q I ⟨c, F, δ, ok, post⟩ => pts_nil.run pins s σ H Q I (post.ok ok rfl)⟩
theorem pts_if {X : Cx} {cn : Expr} {f : FT} (h : DT M W0 X cn f) : PTs X [cn] (canT M W0 f) := pts_one h.can
/-- y = [..] -/
theorem ds_setLc {i : Nat} {y : Str} {py : Pos} {elt iter : Expr} {ifs : List Expr} {scope : Scope} {own : List (Str × Nat)} {pos spos : Pos} {g : TG} {fi : FA} {ft : FT} {fe : FD} {setT : D → Sl → Option Sl} {vs : List Nat} (hvs : own.map (·.2) = vs) (hc : X.calm = true) (hN : X.N.Nodup) (hy : X.N[i]? = some y) (hyl : X.env.scope.names.lookup y = some .local)
    (hsw : swapsWith (.ListComp elt [⟨tg, iter, ifs, 0⟩] scope pos) (some (.Name y py)) spos.line X.env = pure true) (hi : DIt M W X tg iter fi) (ok : BlkOk X.N X.env.scope scope own)
    (hS : SetT M vs g setT) (hg : ∀ s H C cl fp, PG (blkX X scope s H C cl fp) tg g) (ht : ∀ s H C cl fp, PTs (blkX X scope s H C cl fp) ifs (canT M W0 ft)) (he : ∀ s H C cl fp, DI M W0 (blkX X scope s H C cl fp) elt fe) (hs : ∀ x, foldedSetIterable iter X.env x = pure x := by intro _; rfl) :
    DS M W X (.Assign [.Name y py] (.ListComp elt [⟨tg, iter, ifs, 0⟩] scope pos) spos) (sAsg (fLc setT vs fi ft fe) (tName i)) := by
  obtain ⟨wi, pi, hi⟩ := hi
  subst hvs
  refine ⟨_, ps_setLc hc hN hy hyl hsw pi ok hg ht (fun s H C cl fp => (he s H C cl fp).can) hs, asg_of (lc_read hi hS) (fun c F H σ δ v r Q ok rr post => ?_) (tgt_name i)⟩
  unfold tName at post
  cases r with
  | imm d => exact post F H _ (Same.refl _) (ok.setI i rr)
  | own o => exact post F H _ (Same.refl _) (ok.setO i rr)
  | brw o => exact post.elim

/-! ### a def -/
def ioN : Option OB → Nat
  | none => 0
  | some _ => 1
def ioS : Option OB → Sl
  | none => []
  | some o => [some (R.brw o)]
def ini (n : Nat) (io : Option OB) (ds : List D) : Sl := ioS io ++ ds.map (fun d => some (R.imm d)) ++ List.replicate (n - (ioN io + ds.length)) none
def ioOut (io : Option OB) (δ : Sl) : Option (Option OB) := match io with
  | none => some none
  | some _ => match δ[0]? with
    | some (some (R.brw o)) => some (some o)
    | _ => none
def outR (io : Option OB) : SR → FR
  | .rt r δ => (match ioOut io δ with
    | some io' => .ok r io'
    | none => .bad)
  | .nx δ => (match ioOut io δ with
    | some io' => .ok (.imm .non) io'
    | none => .bad)
  | .exc x δ => (match ioOut io δ with
    | some io' => .exc x io'
    | none => .bad)
  | _ => .bad
/-- the mirror of a def with n slots and np parameters -/
def mir (n np : Nat) (g : FS) : Fm := fun io ds => if ioN io + ds.length = np ∧ np ≤ n then outR io (g (ini n io ds)) else .bad
end
end
end TS

set_option maxRecDepth 100000
set_option maxHeartbeats 4000000
/-! TSA: a def's mirror is its promise. -/
namespace TS
open PySem L2
noncomputable section
section
variable {M : Gm} {P : Program} {w : World} {mg : Str → Option Value} {base : Heap}
theorem ini_get_none {n : Nat} {ds : List D} {i : Nat} {r : R} (h : (ini n none ds)[i]? = some (some r)) : ∃ d, ds[i]? = some d ∧ r = .imm d := by
  unfold ini ioS at h
  simp only [List.nil_append] at h
  by_cases hl : i < ds.length
  · rw [List.getElem?_append_left (by simpa using hl), List.getElem?_map, List.getElem?_eq_getElem hl] at h
    simp only [Option.map_some, Option.some.injEq] at h
    exact ⟨ds[i], List.getElem?_eq_getElem hl, h.symm⟩
  · rw [List.getElem?_append_right (by simpa using hl)] at h
    rw [List.getElem?_replicate] at h
    split at h
    · cases h
    · cases h
theorem ini_get_some {n : Nat} {o : OB} {ds : List D} {i : Nat} {r : R} (h : (ini n (some o) ds)[i]? = some (some r)) : (i = 0 ∧ r = .brw o) ∨ ∃ j d, i = j + 1 ∧ ds[j]? = some d ∧ r = .imm d := by
  unfold ini ioS at h
  cases i with
  | zero =>
    simp only [List.cons_append, List.getElem?_cons_zero, Option.some.injEq] at h
    exact .inl ⟨rfl, h.symm⟩
  | succ j =>
    simp only [List.cons_append, List.nil_append, List.getElem?_cons_succ] at h
    right
    by_cases hl : j < ds.length
    · rw [List.getElem?_append_left (by simpa using hl), List.getElem?_map, List.getElem?_eq_getElem hl] at h
      simp only [Option.map_some, Option.some.injEq] at h
      exact ⟨j, ds[j], rfl, List.getElem?_eq_getElem hl, h.symm⟩
    · rw [List.getElem?_append_right (by simpa using hl), List.getElem?_replicate] at h
      split at h
      · cases h
      · cases h
theorem ini_len {n : Nat} {io : Option OB} {ds : List D} (h : ioN io + ds.length ≤ n) : (ini n io ds).length = n := by
  unfold ini
  cases io with
  | none => simp [ioS, ioN] at h ⊢; omega
  | some o => simp [ioS, ioN] at h ⊢; omega
theorem mir_ok {n np : Nat} {g : FS} {vs : List V} {H : Hp} {Q : VK} {E : XK} (h : spD M (mir n np g) vs H Q E) : vs.length = np := by
  obtain ⟨F, io, a, ws, ds, rfl, s, tb, rs, ia, h⟩ := h
  unfold mir at h
  by_cases hn : ioN io + ds.length = np ∧ np ≤ n
  · rw [List.length_append, reps_length rs]
    cases io <;> simp [ioV, ioN] at hn ⊢ <;> omega
  · rw [if_neg hn] at h
    exact h.elim
def cnOf (F H : Hp) (io : Option OB) (a : Addr) (ha : ∀ b, (io.map fun _ => a) = some b → ∃ u, H b = some u ∧ NT u) : Cn M := ⟨F, str0 H, io.map fun _ => a, fun b e z => by
  obtain ⟨u, h1, h2⟩ := ha b e
  exact str0_none z u h1 h2, fun _ _ h => (str0_nt h).2⟩
theorem body_ok {N : List Str} {np : Nat} {g : FS} {t : TS} {vs : List V} {H : Hp} {Q : VK} {E : XK} (hN : np ≤ N.length) (h : spD M (mir N.length np g) vs H Q E)
    (ht : ∀ (c : Cn M) F H σ δ D, Ok c F H σ δ → PostS c (fun cls d _ H => E cls d H) F (g δ) D → t D σ H) : t { nx := fun _ H' => Q .non H', rt := Q } (start N vs) H := by
  have hv := mir_ok h
  obtain ⟨F, io, a, ws, ds, rfl, s, tb, rs, ia, h⟩ := h
  have hio : ∀ b, (io.map fun _ => a) = some b → ∃ u, H b = some u ∧ NT u := fun b e => by
    cases io with
    | none => cases e
    | some o =>
      cases e
      exact obAt_nt ia.2
  unfold mir at h
  have hcond : ioN io + ds.length = np ∧ np ≤ N.length := by
    refine ⟨?_, hN⟩
    rw [List.length_append, reps_length rs] at hv
    cases io <;> simp [ioV, ioN] at hv ⊢ <;> omega
  rw [if_pos hcond] at h
  have hle : ioN io + ds.length ≤ N.length := by rw [hcond.1]; exact hcond.2
  have ok : Ok (cnOf (M := M) F H io a hio) F H (start N (ioV io a ++ ws)) (ini N.length io ds) := by
    refine ⟨s, Same.refl _, fun _ _ z => z, fun _ _ z _ => (str0_nt z).1, hio, tb, ?_, fun i r e => ?_, fun i j r r' v hij e1 e2 m1 m2 _ _ => ?_⟩
    · rw [ini_len hle]
      unfold L2.start
      rw [List.length_append, List.length_map, List.length_replicate]
      rw [hv]; omega
    · cases io with
      | none =>
        obtain ⟨d, hd, rfl⟩ := ini_get_none e
        obtain ⟨v, e1, e2⟩ := reps_get rs hd
        refine ⟨v, ?_, e2⟩
        unfold L2.start
        have hl : i < ws.length := (List.getElem?_eq_some_iff.mp e1).1
        simp only [ioV, List.nil_append]
        rw [List.getElem?_append_left (by simpa using hl), List.getElem?_map, e1]; rfl
      | some o =>
        rcases ini_get_some e with ⟨rfl, rfl⟩ | ⟨j, d, rfl, hd, rfl⟩
        · exact ⟨.ref a, rfl, a, rfl, ia.1, rfl, ia.2⟩
        · obtain ⟨v, e1, e2⟩ := reps_get rs hd
          refine ⟨v, ?_, e2⟩
          unfold L2.start
          have hl : j < ws.length := (List.getElem?_eq_some_iff.mp e1).1
          simp only [ioV, List.cons_append, List.nil_append, List.map_cons, List.getElem?_cons_succ]
          rw [List.getElem?_append_left (by simpa using hl), List.getElem?_map, e1]; rfl
    · cases io with
      | none => obtain ⟨d, _, rfl⟩ := ini_get_none e1; cases m1
      | some o =>
        rcases ini_get_some e1 with ⟨rfl, rfl⟩ | ⟨j1, d, rfl, hd, rfl⟩
        · rcases ini_get_some e2 with ⟨rfl, rfl⟩ | ⟨j1, d, rfl, hd, rfl⟩
          · exact hij rfl
          · cases m2
        · cases m1
  have stp : ∀ {F' H' : Hp} {σ' : St} {δ' : Sl}, Ok (cnOf (M := M) F H io a hio) F' H' σ' δ' → Stp M F H F' H' (io.map fun _ => a) := fun o => ⟨o.grow, fun b u e n z => o.nofz b (by show str0 H b ≠ none; rw [str0_of e n]; exact fun z => by cases z) z, fun b u e n i => o.kept b u (str0_of e n) i, o.same, o.tb⟩
  have iout : ∀ {F' H' : Hp} {σ' : St} {δ' : Sl} {io' : Option OB}, Ok (cnOf (M := M) F H io a hio) F' H' σ' δ' → ioOut io δ' = some io' → ioAt M F' H' io' a := fun {F' H' σ' δ' io'} o e => by
    unfold ioOut at e
    cases io with
    | none => cases e; trivial
    | some ob =>
      simp only at e
      split at e
      · rename_i o' q
        cases e
        obtain ⟨v, k1, b, rfl, k2, k3, k4⟩ := o.slot 0 _ q
        have : a = b := Option.some.inj k3
        subst this
        exact ⟨k2, k4⟩
      · cases e
  refine ht _ F H _ _ _ ok ?_
  cases q : g (ini N.length io ds) with
  | bad => rw [q] at h; exact h.elim
  | bk δ => rw [q] at h; exact h.elim
  | ct δ => rw [q] at h; exact h.elim
  | nx δ =>
    rw [q] at h
    unfold outR at h
    intro F' H' σ' g' ok'
    cases e : ioOut io δ with
    | none => simp only [e] at h
    | some io' =>
      simp only [e] at h
      exact h .non F' H' (stp ok') (rep_non' (M := M) (F := F')) (iout ok' e)
  | rt r δ =>
    rw [q] at h
    unfold outR at h
    intro v F' H' σ' g' ok' rr
    cases e : ioOut io δ with
    | none => simp only [e] at h
    | some io' =>
      simp only [e] at h
      refine h v F' H' (stp ok') ?_ (iout ok' e)
      cases r with
      | imm d => exact rr
      | own o =>
        obtain ⟨b, rfl, k1, k2, k3, _⟩ := rr
        exact ⟨b, rfl, k1, str0_none k2, k3⟩
      | brw o => exact rr
  | exc x δ =>
    rw [q] at h
    unfold outR at h
    intro cls d F' H' σ' g' ok' xa
    cases e : ioOut io δ with
    | none => simp only [e] at h
    | some io' =>
      simp only [e] at h
      exact h cls d F' H' (stp ok') xa (iout ok' e)
/-- a def keeps its mirror -/
theorem funD_mir {x qual : Str} {params : Arguments} {body : List Stmt} {scope : Scope} {dvs : List V} {kws : List (Str × V)} {f : Addr} {fd : FuncData} {N ps : List Str} {k : Nat} {g : FS} (F : FunD M.K x qual params body scope dvs kws f fd) (S : FnScope N ps scope) (hN : ps.length ≤ N.length)
    (hb : ∀ (cdv : Value) (A : Around) (outer : List Env) (s : Shared) (H : Hp) (E : XK), Room k (A.deeper (PyProof.Rows.envOfC qual scope s.heap.objs.size f cdv)) →
      Takes (cxOf (L2.CX P w) P w M.K mg base N qual scope f cdv A outer s H E) (fun cls d _ H => E cls d H) →
      PassesOwn (model P w) (A.deeper (PyProof.Rows.envOfC qual scope s.heap.objs.size f cdv)) (PyProof.Rows.envOfC qual scope s.heap.objs.size f cdv) (cxOf (L2.CX P w) P w M.K mg base N qual scope f cdv A outer s H E).xe →
      DSs M (fun cls d _ H => E cls d H) (cxOf (L2.CX P w) P w M.K mg base N qual scope f cdv A outer s H E) body g) :
    FnOk P w M.K mg base (L2.CX P w) (k + 1) f fd ps (spD M (mir N.length ps.length g)) := by
  refine FnOk.of F S (fun vs H Q E h => mir_ok h) (fun cdv A outer s H vs Q E hr h => ?_)
  obtain ⟨t, p, ht⟩ := hb cdv A outer s H E hr (takes_of rfl rfl rfl rfl) (passes_of rfl)
  exact ⟨t, p, body_ok hN h ht⟩
/-- the same, with the code that the function bears -/
theorem funD_mirC {x qual : Str} {params : Arguments} {body : List Stmt} {scope : Scope} {dvs : List V} {kws : List (Str × V)} {f : Addr} {fd : FuncData} {N ps : List Str} {k : Nat} {g : FS} (F : FunD M.K x qual params body scope dvs kws f fd) (S : FnScope N ps scope) (hN : ps.length ≤ N.length)
    (hb : ∀ (cdv : Value), CodeAt M.K f x qual params body scope cdv → ∀ (A : Around) (outer : List Env) (s : Shared) (H : Hp) (E : XK), Room k (A.deeper (PyProof.Rows.envOfC qual scope s.heap.objs.size f cdv)) →
      Takes (cxOf (L2.CX P w) P w M.K mg base N qual scope f cdv A outer s H E) (fun cls d _ H => E cls d H) →
      PassesOwn (model P w) (A.deeper (PyProof.Rows.envOfC qual scope s.heap.objs.size f cdv)) (PyProof.Rows.envOfC qual scope s.heap.objs.size f cdv) (cxOf (L2.CX P w) P w M.K mg base N qual scope f cdv A outer s H E).xe →
      DSs M (fun cls d _ H => E cls d H) (cxOf (L2.CX P w) P w M.K mg base N qual scope f cdv A outer s H E) body g) :
    FnOk P w M.K mg base (L2.CX P w) (k + 1) f fd ps (spD M (mir N.length ps.length g)) := by
  refine FnOk.ofC F S (fun vs H Q E h => mir_ok h) (fun cdv hcd A outer s H vs Q E hr h => ?_)
  obtain ⟨t, p, ht⟩ := hb cdv hcd A outer s H E hr (takes_of rfl rfl rfl rfl) (passes_of rfl)
  exact ⟨t, p, body_ok hN h ht⟩
end
end
end TS

set_option maxRecDepth 100000
set_option maxHeartbeats 4000000
/-! TSB: what the top leaves, read by a Hook of one's own. -/
namespace TS
open PySem L2
noncomputable section
/-- a def by a path to its object -/
structure DefE where
  at_ : PySem.W.Frag → Addr
  name : Str
  qual : Str
  params : Arguments
  body : List Stmt
  scope : Scope
  dfl : List He.Dv := []
def fnE (K : PySem.W.Frag) (a : Addr) : He.FnW := match K.lookup a with
  | some ⟨_, _, .func fd, _⟩ => some (fd.name, fd.qualname, fd.params, fd.body, fd.scope, fd.globals, fd.closure, fd.builtins)
  | _ => none
def DefE.val (d : DefE) : He.FnW := some (d.name, d.qual, d.params, .stmts d.body, d.scope, mainGlobals, [], builtinsNs)
def DefE.dvs (K : PySem.W.Frag) (d : DefE) : List V := d.dfl.map (He.Dv.v K)
def DefE.ok (K : PySem.W.Frag) (d : DefE) : Bool := PySem.W.keepIn K (.ref (d.at_ K)) && (match K.lookup (d.at_ K) with
  | some ⟨_, _, .func fd, _⟩ => PySem.W.codeIn K fd.code d.qual && He.dflB K fd.defaults (d.dvs K)
  | _ => false)
theorem DefE.funD {K : PySem.W.Frag} {d : DefE} (e : fnE K (d.at_ K) = d.val) (c : d.ok K = true) : ∃ fd, FunD K d.name d.qual d.params d.body d.scope (d.dvs K) [] (d.at_ K) fd := by
  obtain ⟨kp, c2⟩ := He.ba c
  unfold fnE at e
  cases q : K.lookup (d.at_ K) with
  | none =>
    rw [q] at c2
    cases c2
  | some o =>
    obtain ⟨oc, od, dt, osl⟩ := o
    rw [q] at c2 e
    cases dt with
    | func fd =>
      obtain ⟨n1, n2, n3, n4, n5, n6, n7, n8, n9, n10, n11, n12, n13, n14, n15⟩ := fd
      have e2 : (some (n1, n2, n3, n4, n5, n6, n7, n15) : He.FnW) = some (d.name, d.qual, d.params, .stmts d.body, d.scope, mainGlobals, [], builtinsNs) := e
      simp only [Option.some.injEq, Prod.mk.injEq] at e2
      obtain ⟨h1, h2, h3, h4, h5, h6, h7, h8⟩ := e2
      subst h1 h2 h3 h4 h5 h6 h7 h8
      have c3 : (PySem.W.codeIn K n13 d.qual && He.dflB K n8 (d.dvs K)) = true := c2
      obtain ⟨k1, k3⟩ := He.ba c3
      exact ⟨_, ⟨oc, od, n8, n9, n10, n11, n12, n13, n14, osl, rfl, q, k1, He.dflB_ok k3, .inl rfl⟩, kp⟩
    | _ => cases c2
/-! paths -/
abbrev gA (x : Str) : PySem.W.Frag → Addr := fun K => He.ga K x
abbrev mA (x m : Str) : PySem.W.Frag → Addr := fun K => He.ma K (He.ga K x) m
/-- what the name m of the class x is (a property, a classmethod) -/
def dA (x m : Str) : PySem.W.Frag → Addr := fun K => He.ma K (He.ga K x) m
/-- the def under it -/
def uA (T : String) (x m : Str) : PySem.W.Frag → Addr := fun K => match PySem.W.recIn K (dA x m K) T with
  | some (.ref g :: _) => g
  | _ => 0
def eqV2 (a b : Option (List Value)) : Bool := decide (a = b)
inductive Fx where
  | he (f : He.Fa)
  | prop (x f : Str)
  | cmet (x m : Str)
  | cread (x : Str)
  | cint (x f : Str) (i : Int)
  | kit (x y : Str) (b : Bool)
  | kitT (t : String) (y : Str) (b : Bool)
  | kitC (x : Str) (t : String) (b : Bool)
  | ity (x : Str)
  | neb (x : Str)
  | nfT (x : Str) (t : String)
  | nfC (x y : Str)
  | sfx (x : Str)
  | exc (x : Str) (B : String)
  | exm (x y : Str) (b : Bool)
  | smd
/-- an exception base's line of classes -/
def bmOf : String → List Value := fun B => [.type B, .type "Exception", .type "BaseException", .type "object"]
def headRef : Option (List Value) → Addr → Bool
  | some (.ref g :: _), a => decide (g = a)
  | _, _ => false
def tyT : Value := .type "type"
def Fx.ok (K : PySem.W.Frag) : Fx → Bool
  | .he f => f.ok K
  | .prop x f => He.eqO (PySem.W.findIn K (.ref (He.ga K x)) f) (some (some (.ref (dA x f K)))) && (He.eqO (PySem.W.specialIn K (.ref (dA x f K)) "__get__") (some (some (.builtin "property.__get__"))) && (decide (PySem.W.takesIn K (.ref (dA x f K)) = some true) && headRef (PySem.W.recIn K (dA x f K) "property") (uA "property" x f K)))
  | .cmet x m => (match PySem.W.findCls K (.ref (He.ga K x)) tyT m with
    | some (.get (.builtin b) (.ref p) .none (.ref C)) => decide (b = "classmethod.__get__") && (decide (p = dA x m K) && decide (C = He.ga K x))
    | _ => false) && (headRef (PySem.W.recIn K (dA x m K) "classmethod") (uA "classmethod" x m K) && PySem.W.fnIn K (uA "classmethod" x m K))
  | .cread x => PySem.W.readsIn K (He.ga K x) tyT && He.eqO (PySem.W.specialIn K (.ref (He.ga K x)) "__getattribute__") (some (some (.builtin "type.__getattribute__")))
  | .cint x f i => (match PySem.W.findCls K (.ref (He.ga K x)) tyT f with
    | some (.val (.int j _)) => decide (j = i)
    | _ => false)
  | .kit x y b => decide (PySem.W.kitOne K (.ref (He.ga K x)) (.ref (He.ga K y)) = some b)
  | .kitT t y b => decide (PySem.W.kitOne K (.type t) (.ref (He.ga K y)) = some b)
  | .kitC x t b => decide (PySem.W.kitOne K (.ref (He.ga K x)) (.type t) = some b)
  | .ity x => He.eqO (PySem.W.findIn K (.ref (He.ga K x)) "__class__") (some (some (.builtin "object.__class__"))) && (He.eqO (PySem.W.specialIn K (.builtin "object.__class__") "__get__") (some (some (.builtin "getset_descriptor.__get__"))) && (decide (PySem.W.takesIn K (.builtin "object.__class__") = some true) && decide (PySem.W.mroIn K (He.ga K x) (.type "object") = some true)))
  | .neb x => He.eqO (PySem.W.findIn K (.ref (He.ga K x)) "__ne__") (some (some (.builtin "object.__ne__")))
  | .nfT x t => PySem.W.notFirst K (He.ga K x) (.type t)
  | .nfC x y => PySem.W.notFirst K (He.ga K x) (.ref (He.ga K y))
  | .sfx x => PySem.W.selfFirst K (He.ga K x)
  | .exc x B => PySem.W.excInitIn K (He.ga K x) (bmOf B) (B ++ ".__new__") && (PySem.W.excOver K (He.ga K x) (bmOf B) && (PySem.W.hasDictIn K (He.ga K x) && (He.eqO (PySem.W.findIn K (.ref (He.ga K x)) "__setattr__") (some (some (.builtin "object.__setattr__"))) && (decide (PySem.W.subIn K (.ref (He.ga K x)) (.type "BaseException") = some true) && (decide (PySem.W.typeIn K (.ref (He.ga K x)) = some (.type "type")) && (PySem.W.keepIn K (.ref (He.ga K x)) &&
    (He.eqO (PySem.W.findIn K (.ref (He.ga K x)) "__init__") (some (some (.ref (He.ma K (He.ga K x) "__init__")))) && (decide (PySem.W.typeIn K (.ref (He.ma K (He.ga K x) "__init__")) = some (.type "function")) && (He.eqO (PySem.W.findIn K (.ref (He.ga K x)) "__getattribute__") (some (some (.builtin "BaseException.__getattribute__"))) && (He.eqO (PySem.W.findIn K (.ref (He.ga K x)) "__getattr__") (some none) &&
    (He.eqO (PySem.W.findIn K (.ref (He.ga K x)) "__class__") (some (some (.builtin "object.__class__"))) && (He.eqO (PySem.W.specialIn K (.builtin "object.__class__") "__get__") (some (some (.builtin "getset_descriptor.__get__"))) && (decide (PySem.W.takesIn K (.builtin "object.__class__") = some true) && decide (PySem.W.mroIn K (He.ga K x) (.type "object") = some true))))))))))))))
  | .smd => (match K.lookup sysModules with
    | some ⟨.type c, _, _, _⟩ => decide (c = "dict")
    | _ => false)
  | .exm x y b => decide (PySem.W.exmOne K (.ref (He.ga K x)) (.ref (He.ga K y)) = some b)
section
variable {K : PySem.W.Frag}
theorem headRef_ok {o : Option (List Value)} {a : Addr} (h : headRef o a = true) : ∃ rest, o = some (.ref a :: rest) := by
  unfold headRef at h
  split at h
  · have e := of_decide_eq_true h
    subst e
    exact ⟨_, rfl⟩
  · cases h
theorem prop_ok {x f : Str} (c : (Fx.prop x f).ok K = true) : PropOf K (He.ga K x) f (dA x f K) (uA "property" x f K) := by
  obtain ⟨c1, c⟩ := He.ba c
  obtain ⟨c2, c⟩ := He.ba c
  obtain ⟨c3, c4⟩ := He.ba c
  exact ⟨He.eqO_ok c1, He.eqO_ok c2, of_decide_eq_true c3, headRef_ok c4⟩
theorem cmet_ok {x m : Str} (c : (Fx.cmet x m).ok K = true) : ClX.CMet K (He.ga K x) tyT m (dA x m K) (uA "classmethod" x m K) := by
  obtain ⟨c1, c⟩ := He.ba c
  obtain ⟨c2, c3⟩ := He.ba c
  refine ⟨?_, headRef_ok c2, c3⟩
  split at c1
  · rename_i b p C e
    obtain ⟨k1, k⟩ := He.ba c1
    obtain ⟨k2, k3⟩ := He.ba k
    rw [e, of_decide_eq_true k1, of_decide_eq_true k2, of_decide_eq_true k3]
  · cases c1
theorem cread_ok {x : Str} (c : (Fx.cread x).ok K = true) : ClX.CRead K (He.ga K x) tyT := by
  obtain ⟨c1, c2⟩ := He.ba c
  exact ⟨c1, He.eqO_ok c2⟩
theorem cint_ok {x f : Str} {i : Int} (c : (Fx.cint x f i).ok K = true) : ∃ u, ClX.CVal K (He.ga K x) tyT f (.int i) u := by
  have c : (match PySem.W.findCls K (.ref (He.ga K x)) tyT f with
    | some (.val (.int j _)) => decide (j = i)
    | _ => false) = true := c
  split at c
  · rename_i j t e
    have ej := of_decide_eq_true c
    subst ej
    exact ⟨_, e, t, rfl⟩
  · cases c
theorem kit_ok {x y : Str} {b : Bool} (c : (Fx.kit x y b).ok K = true) : PySem.W.kitOne K (.ref (He.ga K x)) (.ref (He.ga K y)) = some b := of_decide_eq_true c
theorem kitC_ok {x : Str} {t : String} {b : Bool} (c : (Fx.kitC x t b).ok K = true) : PySem.W.kitOne K (.ref (He.ga K x)) (.type t) = some b := of_decide_eq_true c
theorem ity_ok {x : Str} (c : (Fx.ity x).ok K = true) : PySem.W.findIn K (.ref (He.ga K x)) "__class__" = some (some (.builtin "object.__class__")) ∧ PySem.W.specialIn K (.builtin "object.__class__") "__get__" = some (some (.builtin "getset_descriptor.__get__")) ∧ PySem.W.takesIn K (.builtin "object.__class__") = some true ∧ PySem.W.mroIn K (He.ga K x) (.type "object") = some true := by
  obtain ⟨c1, c⟩ := He.ba c
  obtain ⟨c2, c⟩ := He.ba c
  obtain ⟨c3, c4⟩ := He.ba c
  exact ⟨He.eqO_ok c1, He.eqO_ok c2, of_decide_eq_true c3, of_decide_eq_true c4⟩
theorem neb_ok {x : Str} (c : (Fx.neb x).ok K = true) : PySem.W.findIn K (.ref (He.ga K x)) "__ne__" = some (some (.builtin "object.__ne__")) := He.eqO_ok c
theorem nfT_ok {x : Str} {t : String} (c : (Fx.nfT x t).ok K = true) : PySem.W.notFirst K (He.ga K x) (.type t) = true := c
theorem nfC_ok {x y : Str} (c : (Fx.nfC x y).ok K = true) : PySem.W.notFirst K (He.ga K x) (.ref (He.ga K y)) = true := c
theorem sfx_ok {x : Str} (c : (Fx.sfx x).ok K = true) : PySem.W.selfFirst K (He.ga K x) = true := c
theorem kitT_ok {t : String} {y : Str} {b : Bool} (c : (Fx.kitT t y b).ok K = true) : PySem.W.kitOne K (.type t) (.ref (He.ga K y)) = some b := of_decide_eq_true c
end
/-! the Hook -/
def obsS (fa : List Fx) (fn : List DefE) (K : PySem.W.Frag) : He.AlD := ((fa.all fun f => f.ok K) && fn.all fun d => d.ok K, fn.map fun d => fnE K (d.at_ K))
def valS (fn : List DefE) : He.AlD := (true, fn.map DefE.val)
def SaysS (fa : List Fx) (fn : List DefE) (K : PySem.W.Frag) : Prop := obsS fa fn K = valS fn
/-- the first n addresses: the heap behind the head is small -/
def asS (_ : Addr → Option Obj) (n : Nat) : List Addr := List.range n
def obsSG (n : Nat) (fa : List Fx) (fn : List DefE) (g : Addr → Option Obj) : He.AlD := obsS fa fn (He.frG g (asS g n))
def hookS (n : Nat) (fa : List Fx) (fn : List DefE) : PySem.W.Hook where
  α := He.AlD
  obs := fun s => obsSG n fa fn s.heap.get?
  val := fun _ => valS fn
  says := fun _ h => ∃ K : PySem.W.Frag, K.In h ∧ SaysS fa fn K
  of := fun _ _ e => ⟨_, He.frG_in, e⟩
  keeps := fun _ _ _ ⟨K, hK, c⟩ k => ⟨K, PySem.W.Frag.In.keeps hK k, c⟩
theorem obsSG_eq {n : Nat} {fa : List Fx} {fn : List DefE} {g : Addr → Option Obj} {s : Shared} (h : ∀ a, g a = s.heap.get? a) : obsSG n fa fn g = (hookS n fa fn).obs s := by
  have e : g = s.heap.get? := funext h
  rw [e] <;> rfl
section
variable {fa : List Fx} {fn : List DefE} {K : PySem.W.Frag}
theorem SaysS.fact (c : SaysS fa fn K) (i : Nat) {f : Fx} (h : fa[i]? = some f := by rfl) : f.ok K = true := by
  have c1 := (He.ba (show ((fa.all fun f => f.ok K) && fn.all fun d => d.ok K) = true from congrArg (fun z : He.AlD => z.1) c)).1
  exact List.all_eq_true.mp c1 f (List.mem_of_getElem? h)
theorem SaysS.def_ (c : SaysS fa fn K) (i : Nat) {d : DefE} (h : fn[i]? = some d := by rfl) : ∃ fd, FunD K d.name d.qual d.params d.body d.scope (d.dvs K) [] (d.at_ K) fd := by
  have c2 := (He.ba (show ((fa.all fun f => f.ok K) && fn.all fun d => d.ok K) = true from congrArg (fun z : He.AlD => z.1) c)).2
  have e : fn.map (fun d => fnE K (d.at_ K)) = fn.map DefE.val := congrArg (fun z : He.AlD => z.2) c
  have e2 : (fn.map fun d => fnE K (d.at_ K))[i]? = (fn.map DefE.val)[i]? := by rw [e]
  rw [List.getElem?_map, List.getElem?_map, h] at e2
  exact DefE.funD (Option.some.inj e2) (List.all_eq_true.mp c2 d (List.mem_of_getElem? h))
end
/-! ### what the head left: the makers' code objects, their empty tables -/
/-- the code object of a def -/
def refOf : Value → Addr
  | .ref c => c
  | _ => 0
def isRef : Value → Bool
  | .ref _ => true
  | _ => false
def cdA (f : PySem.W.Frag → Addr) (K : PySem.W.Frag) : Addr := match K.lookup (f K) with
  | some ⟨_, _, .func fd, _⟩ => refOf fd.code
  | _ => 0
/-- its table -/
def tbA (f : PySem.W.Frag → Addr) (K : PySem.W.Frag) : Addr := match K.lookup (cdA f K) with
  | some ⟨_, _, .fields vs, _⟩ => refOf (vs.getD 11 .none)
  | _ => 0
def isTab : Option Obj → Bool
  | some ⟨.none, .none, .fields vs, sl⟩ => vs.isEmpty && sl.isEmpty
  | _ => false
theorem isTab_ok {o : Option Obj} (h : isTab o = true) : o = some (PySem.W.tabObj #[]) := by
  unfold isTab at h
  split at h
  · rename_i vs sl
    rw [Bool.and_eq_true] at h
    obtain ⟨h1, h2⟩ := h
    rw [Array.isEmpty_iff] at h1 h2
    subst h1 h2
    rfl
  · cases h
abbrev Mk2 := (PySem.W.Frag → Addr) × Str
def fnRef (f : PySem.W.Frag → Addr) (K : PySem.W.Frag) : Bool := match K.lookup (f K) with
  | some ⟨_, _, .func fd, _⟩ => isRef fd.code
  | _ => false
def mkOk (g : Addr → Option Obj) (K : PySem.W.Frag) (x : Mk2) : Bool := fnRef x.1 K && (PySem.W.codeHdIn K (cdA x.1 K) (tbA x.1 K) && (isTab (g (tbA x.1 K)) && (K.lookup (tbA x.1 K)).isNone))
def uqOk (tn : List Mk2) (K : PySem.W.Frag) : Bool := tn.all fun x => tn.all fun y => !decide (tbA x.1 K = tbA y.1 K) || decide (x.2 = y.2)
/-- all but the empty tables -/
def asT (g : Addr → Option Obj) (n : Nat) : List Addr := (List.range n).filter fun a => !isTab (g a)
def obsT (n : Nat) (fa : List Fx) (fn : List DefE) (tn : List Mk2) (g : Addr → Option Obj) : He.AlD :=
  let K := He.frG g (asT g n)
  ((fa.all fun f => f.ok K) && ((fn.all fun d => d.ok K) && (tn.all (mkOk g K) && uqOk tn K)), fn.map fun d => fnE K (d.at_ K))
structure SaysT (fa : List Fx) (fn : List DefE) (tn : List Mk2) (K : PySem.W.Frag) (h : Heap) : Prop where
  s : SaysS fa fn K
  m : ∀ x ∈ tn, fnRef x.1 K = true ∧ PySem.W.codeHdIn K (cdA x.1 K) (tbA x.1 K) = true ∧ h.get? (tbA x.1 K) = some (PySem.W.tabObj #[]) ∧ K.lookup (tbA x.1 K) = none
  u : ∀ x ∈ tn, ∀ y ∈ tn, tbA x.1 K = tbA y.1 K → x.2 = y.2
theorem saysT_of {n : Nat} {fa : List Fx} {fn : List DefE} {tn : List Mk2} {h : Heap} (e : obsT n fa fn tn h.get? = valS fn) : ∃ K : PySem.W.Frag, K.In h ∧ SaysT fa fn tn K h := by
  refine ⟨He.frG h.get? (asT h.get? n), He.frG_in, ?_⟩
  unfold obsT valS at e
  dsimp only at e
  generalize He.frG h.get? (asT h.get? n) = K at e
  obtain ⟨e1, e2⟩ := Prod.mk.inj e
  obtain ⟨k1, k⟩ := He.ba e1
  obtain ⟨k2, k⟩ := He.ba k
  obtain ⟨k3, k4⟩ := He.ba k
  refine ⟨?_, fun x hx => ?_, fun x hx y hy z => ?_⟩
  · unfold SaysS obsS valS
    rw [k1, k2, e2]; rfl
  · have q := List.all_eq_true.mp k3 x hx
    obtain ⟨q1, q⟩ := He.ba q
    obtain ⟨q2, q⟩ := He.ba q
    obtain ⟨q3, q4⟩ := He.ba q
    exact ⟨q1, q2, isTab_ok q3, by simpa using q4⟩
  · have q := List.all_eq_true.mp (List.all_eq_true.mp k4 x hx) y hy
    simp [z] at q
    exact q
def hookT (n : Nat) (fa : List Fx) (fn : List DefE) (tn : List Mk2) : PySem.W.Hook where
  α := He.AlD
  obs := fun s => obsT n fa fn tn s.heap.get?
  val := fun _ => valS fn
  says := fun _ h => ∃ K : PySem.W.Frag, K.In h ∧ SaysT fa fn tn K h
  of := fun _ _ e => saysT_of e
  keeps := fun _ _ _ ⟨K, hK, c⟩ k => ⟨K, PySem.W.Frag.In.keeps hK k, c.s, fun x hx => ⟨(c.m x hx).1, (c.m x hx).2.1, k _ _ (c.m x hx).2.2.1, (c.m x hx).2.2.2⟩, c.u⟩
theorem obsT_eq {n : Nat} {fa : List Fx} {fn : List DefE} {tn : List Mk2} {g : Addr → Option Obj} {s : Shared} (h : ∀ a, g a = s.heap.get? a) : obsT n fa fn tn g = (hookT n fa fn tn).obs s := by
  have e : g = s.heap.get? := funext h
  rw [e] <;> rfl
/-- the code object that a def's function bears -/
theorem code_of {f : PySem.W.Frag → Addr} {K : PySem.W.Frag} {name qual : Str} {params : Arguments} {body : List Stmt} {scope : Scope} {cdv : Value} (h : fnRef f K = true) (lk : CodeAt K (f K) name qual params body scope cdv) : cdv = .ref (cdA f K) := by
  obtain ⟨oc, od, dV, kV, doc, pm, ct, an, osl, lk⟩ := lk
  unfold fnRef at h
  unfold cdA
  rw [lk] at h ⊢
  change isRef cdv = true at h
  change cdv = .ref (refOf cdv)
  cases cdv <;> first | rfl | cases h
def csOf (tn : List Mk2) (K : PySem.W.Frag) : List (Addr × Addr) := tn.map fun x => (cdA x.1 K, tbA x.1 K)
def tsOf (tn : List Mk2) (K : PySem.W.Frag) : List (Addr × Str) := tn.map fun x => (tbA x.1 K, x.2)
theorem ts_uq {fa : List Fx} {fn : List DefE} {tn : List Mk2} {K : PySem.W.Frag} {h : Heap} (c : SaysT fa fn tn K h) {x : Mk2} (hx : x ∈ tn) : ∀ p ∈ tsOf tn K, p.1 = tbA x.1 K → p.2 = x.2 := fun p hp e => by
  obtain ⟨y, hy, rfl⟩ := List.mem_map.mp hp
  exact c.u y hy x hx e
theorem mk_of {tn : List Mk2} {K : PySem.W.Frag} {mg : Str → Option Value} {base : Heap} (t : ∀ p ∈ csOf tn K, LamX.TabB base mg p.1 p.2) (u : ∀ x ∈ tn, ∀ y ∈ tn, tbA x.1 K = tbA y.1 K → x.2 = y.2) {i : Nat} {x : Mk2} (h : tn[i]? = some x) :
    LamX.TabB base mg (cdA x.1 K) (tbA x.1 K) ∧ (tbA x.1 K, x.2) ∈ tsOf tn K ∧ ∀ p ∈ tsOf tn K, p.1 = tbA x.1 K → p.2 = x.2 := by
  have hx := List.mem_of_getElem? h
  refine ⟨t _ (List.mem_map.mpr ⟨x, hx, rfl⟩), List.mem_map.mpr ⟨x, hx, rfl⟩, fun p hp e => ?_⟩
  obtain ⟨y, hy, rfl⟩ := List.mem_map.mp hp
  exact u y hy x hx e
section
variable {fa : List Fx} {fn : List DefE} {tn : List Mk2} {K : PySem.W.Frag} {h : Heap}
theorem cs_tab (c : SaysT fa fn tn K h) : ∀ p ∈ csOf tn K, h.get? p.2 = some (PySem.W.tabObj #[]) := fun p hp => by
  obtain ⟨x, hx, rfl⟩ := List.mem_map.mp hp
  exact (c.m x hx).2.2.1
theorem cs_no (c : SaysT fa fn tn K h) : ∀ p ∈ csOf tn K, K.lookup p.2 = none := fun p hp => by
  obtain ⟨x, hx, rfl⟩ := List.mem_map.mp hp
  exact (c.m x hx).2.2.2
theorem cs_code (X : K.In h) (c : SaysT fa fn tn K h) : ∀ p ∈ csOf tn K, PySem.W.CodeHd h p.1 p.2 := fun p hp => by
  obtain ⟨x, hx, rfl⟩ := List.mem_map.mp hp
  exact PySem.W.codeHd_of_K X (c.m x hx).2.1
end
end
end TS

set_option maxHeartbeats 0
namespace K12
open PySem L2 TS
def top (i : Nat) : Stmt := PySem.Challenge.pw_threeswaps_k12_places_moved.main.body.getD i (.Pass ⟨0, 0, 0, 0⟩)
def dE (p : PySem.W.Frag → Addr) (nm q : Str) (s : Stmt) (dfl : List He.Dv) : DefE := ⟨p, nm, q, defArgs s, defBody s, defScope s, dfl⟩
def d__law_draw : DefE := dE (gA "_law_draw") "_law_draw" "_law_draw" (top 24) []
def d__law_choice : DefE := dE (gA "_law_choice") "_law_choice" "_law_choice" (top 25) []
def d__law_shuffled : DefE := dE (gA "_law_shuffled") "_law_shuffled" "_law_shuffled" (top 26) []
def d__law_great : DefE := dE (gA "_law_great") "_law_great" "_law_great" (top 27) []
def d__law_table : DefE := dE (gA "_law_table") "_law_table" "_law_table" (top 29) []
def d_least_table : DefE := dE (gA "least_table") "least_table" "least_table" (top 15) []
def d_InvalidTable___init__ : DefE := dE (mA "InvalidTable" "__init__") "__init__" "InvalidTable.__init__" (inClass (top 4) 0) []
def d_TooLong___init__ : DefE := dE (mA "TooLong" "__init__") "__init__" "TooLong.__init__" (inClass (top 6) 0) []
def d_is_integer : DefE := dE (gA "is_integer") "is_integer" "is_integer" (top 8) []
def d_checked_table : DefE := dE (gA "checked_table") "checked_table" "checked_table" (top 14) []
def d_sources_of : DefE := dE (gA "sources_of") "sources_of" "sources_of" (top 20) []
def d_Plan___init__ : DefE := dE (mA "Plan" "__init__") "__init__" "Plan.__init__" (inClass (top 21) 1) []
def d_Plan_identity : DefE := dE (uA "classmethod" "Plan" "identity") "identity" "Plan.identity" (inClass (top 21) 2) []
def d__law_place : DefE := dE (gA "_law_place") "_law_place" "_law_place" (top 28) []
def d_InvalidInteger___init__ : DefE := dE (mA "InvalidInteger" "__init__") "__init__" "InvalidInteger.__init__" (inClass (top 3) 0) []
def d_require_integer : DefE := dE (gA "require_integer") "require_integer" "require_integer" (top 9) [.non]
def d_Plan_shift : DefE := dE (uA "classmethod" "Plan" "shift") "shift" "Plan.shift" (inClass (top 21) 3) []
def d__law_refused : DefE := dE (gA "_law_refused") "_law_refused" "_law_refused" (top 34) []
def d_moved : DefE := dE (gA "moved") "moved" "moved" (top 18) []
def d_Plan_at : DefE := dE (mA "Plan" "at") "at" "Plan.at" (inClass (top 21) 8) []
def d_Plan___call__ : DefE := dE (mA "Plan" "__call__") "__call__" "Plan.__call__" (inClass (top 21) 9) []
def d_Plan_back : DefE := dE (mA "Plan" "back") "back" "Plan.back" (inClass (top 21) 10) []
def d__law_refused_right : DefE := dE (gA "_law_refused_right") "_law_refused_right" "_law_refused_right" (top 35) []
def d__law_at : DefE := dE (gA "_law_at") "_law_at" "_law_at" (top 30) []
def d__law_is_place : DefE := dE (gA "_law_is_place") "_law_is_place" "_law_is_place" (top 31) []
def d__law_source : DefE := dE (gA "_law_source") "_law_source" "_law_source" (top 32) []
def d__law_asked_right : DefE := dE (gA "_law_asked_right") "_law_asked_right" "_law_asked_right" (top 33) []
def d__law_right : DefE := dE (gA "_law_right") "_law_right" "_law_right" (top 36) []
def d__law_pot : DefE := dE (gA "_law_pot") "_law_pot" "_law_pot" (top 23) []
def d_law : DefE := dE (gA "law") "law" "law" (top 37) []
def fn : List DefE := ([d__law_draw, d__law_choice, d__law_shuffled, d__law_great, d__law_table, d_least_table, d_InvalidTable___init__, d_TooLong___init__, d_is_integer, d_checked_table, d_sources_of, d_Plan___init__, d_Plan_identity, d__law_place, d_InvalidInteger___init__, d_require_integer, d_Plan_shift, d__law_refused, d_moved, d_Plan_at, d_Plan___call__, d_Plan_back, d__law_refused_right, d__law_at, d__law_is_place, d__law_source, d__law_asked_right, d__law_right, d__law_pot, d_law] : List DefE)
def fa : List Fx := ([.he (.free "len"), .he (.free "min"), .he (.free "max"), .he (.free "range"), .he (.free "divmod"), .he (.free "int"), .he (.glo "_law_draw"), .he (.glo "_law_choice"), .he (.free "list"), .he (.glo "_law_shuffled"), .he (.glo "_law_great"), .he (.glo "_law_table"), .he (.cls "Plan"), .he (.noat "Plan" "own_offsets"), .he (.glo "least_table"), .he (.free "tuple"), .he (.free "isinstance"), .exc "InvalidTable" "ValueError", .he (.noat "InvalidTable" "problem"), .he (.noat "InvalidTable" "position"), .he (.noat "InvalidTable" "earlier"), .he (.glo "InvalidTable"), .cread "Move", .cint "Move" "MAX_PERIOD" 2520, .he (.glo "Move"), .exc "TooLong" "ArithmeticError", .he (.noat "TooLong" "multiple"), .he (.glo "TooLong"), .he (.free "enumerate"), .he (.free "bool"), .he (.glo "is_integer"), .he (.glo "checked_table"), .cread "Plan", .cint "Plan" "SIGN" 1, .he (.glo "Plan"), .he (.noat "Plan" "own_sources"), .he (.glo "sources_of"), .he (.mkr "Plan"), .cmet "Plan" "identity", .he (.glo "_law_place"), .exc "InvalidInteger" "ValueError", .he (.noat "InvalidInteger" "value"), .he (.glo "InvalidInteger"), .he (.glo "require_integer"), .cmet "Plan" "shift", .exm "InvalidInteger" "InvalidInteger" true, .exm "InvalidTable" "InvalidInteger" false, .exm "TooLong" "InvalidInteger" false, .kit "InvalidInteger" "ThreeswapsError" true, .kit "InvalidTable" "ThreeswapsError" true, .kit "TooLong" "ThreeswapsError" false, .he (.glo "ThreeswapsError"), .kit "InvalidInteger" "LimitError" false, .kit "InvalidInteger" "InvalidTable" false, .kit "InvalidTable" "InvalidTable" true, .kit "TooLong" "LimitError" true, .kit "TooLong" "InvalidTable" false, .he (.glo "LimitError"), .smd, .he (.free "repr"), .he (.glo "moved"), .he (.meth "Plan" "at"), .he (.glo "_law_refused"), .he (.meth "Plan" "__call__"), .he (.meth "Plan" "back"), .he (.glo "_law_refused_right"), .he (.glo "_law_at"), .he (.glo "_law_is_place"), .he (.free "all"), .he (.glo "_law_source"), .he (.glo "_law_asked_right"), .he (.free "set"), .he (.glo "_law_right"), .he (.free "abs"), .he (.glo "_law_pot"), .he (.glo "law")] : List Fx)
def tn : List Mk2 := [((gA "_law_refused_right"), "_law_refused_right.<locals>.<lambda>")]
abbrev R : PySem.W.OpenRow := PySem.W.OpenLaw.row PySem.Challenge.rw_threeswaps_k12_places_moved
abbrev hk : PySem.W.Hook := hookT 2000 fa fn tn
def ob (s : PySem.W.SharedT) : He.AlD := obsT 2000 fa fn tn (HandSHeadRun.getT s)
theorem ob_eq (s : PySem.W.SharedT) : ob s = hk.obs s.abs := obsT_eq (HandSHeadRun.getT_eq s)
def loose : List PySem.Str := (["_wall", "__name__", "ThreeswapsError", "InvalidInteger", "InvalidTable", "LimitError", "TooLong", "is_integer", "require_integer", "divisor_of_two", "common_multiple", "Move"] : List PySem.Str) ++ ((["checked_table", "least_table", "table_text", "joint_multiple", "moved", "joined_table", "sources_of", "Plan", "_law_pot", "_law_draw", "_law_choice", "_law_shuffled"] : List PySem.Str) ++ ((["_law_great", "_law_place", "_law_table", "_law_at", "_law_is_place", "_law_source", "_law_asked_right", "_law_refused", "_law_refused_right", "_law_right"] : List PySem.Str)))
end K12

set_option maxHeartbeats 0
namespace K12
open PySem L2 TS
theorem map3 {α β γ δ : Type} {x : Option α} {f : α → β} {g : α → γ} {c : α → δ} {a : β} {b : γ} {d : δ} (h1 : x.map f = some a) (h2 : x.map g = some b) (h3 : x.map c = some d) : x.map (fun s => (f s, g s, c s)) = some (a, b, d) := by
  cases x with
  | none => cases h1
  | some s =>
    have h1 := Option.some.inj h1
    have h2 := Option.some.inj h2
    have h3 := Option.some.inj h3
    show some (f s, g s, c s) = _
    rw [h1, h2, h3]
theorem run_a (w : World) : ∀ os : OsState, (HandSHeadRun.endF (HandSHeadRun.stepQ (HandSHeadRun.denQ HandSHeadRun.tabQ) R.prog w) 6000 R.prog w os).map (fun s => HandSHeadRun.looksF R.prog (PySem.W.boot_heap w.params) s.abs) = some (true) := by
  intro os
  kernel_rfl
theorem run_b (w : World) : ∀ os : OsState, (HandSHeadRun.endF (HandSHeadRun.stepQ (HandSHeadRun.denQ HandSHeadRun.tabQ) R.prog w) 6000 R.prog w os).map (fun s => HandSHeadRun.seenQ (PySem.W.view R.prog [37]) loose (importedModules R.prog.main.body) (fun s => PySem.W.xlAt (PySem.W.view R.prog [37]) [] s && PySem.W.recOk R.toRowW.records s) s.abs) = some (PySem.W.openGood (PySem.W.view R.prog [37]) loose) := by
  intro os
  kernel_rfl
theorem run_c (w : World) : ∀ os : OsState, (HandSHeadRun.endF (HandSHeadRun.stepQ (HandSHeadRun.denQ HandSHeadRun.tabQ) R.prog w) 6000 R.prog w os).map (fun s => ob s) = some (hk.val w) := by
  intro os
  kernel_rfl
theorem run (w : World) : HandSHeadRun.RunEq R (PySem.W.view R.prog [37]) hk ob 6000 loose w := by
  intro os
  exact map3 (run_a w os) (run_b w os) (run_c w os)
end K12

set_option maxRecDepth 100000
set_option maxHeartbeats 4000000
/-! TSC: types, isinstance, own ==, !=, unary operators, defaults, keywords, star parameters, attribute stores. -/
namespace PySem.W
section
variable {prog : Program} {w : World} {A : Around} {E : Value → Shared → Prop} {s : Shared} {K : Frag} {x C L f : Addr} {h₀ : Heap} {m : Str → Option Value} {ox : Obj} {od : Option Obj} {name : Str} {b tb : Value}
theorem ts_ifBoundB {M : Model} {id : String} {args : List Value} {Q : Option Value → Shared → Prop} (X : K.In s.heap) (I : InstAt s.heap x ox C od) (hs : findIn K (.ref C) name = some (some (.builtin id))) (hb : ∀ self, bindSpecial (.builtin id) self = pure (.builtin id, [self]))
    (h : wpAny M A (call (.builtin id) (.ref x :: args)) (fun v => Q (some v)) E s) : wpAny M A (callSpecialIfBound? (.ref x) name args) Q E s := by
  simp only [callSpecialIfBound?, bindSpecialIfBound?]
  refine wpAny_holding (wpAny_bind (wpAny_bind (wpAny_bind (I.type.here ((looks_findIn X hs).here ?_)))))
  refine wpAny_bind (wpAny_askSetting (wpAny_ite ?_))
  have fin : wpAny M A (call (.builtin id) ([.ref x] ++ args) >>= fun v => pure (some v)) Q E s := wpAny_bind (wpAny_mono h (fun v s' h' => wpAny_pure h') fun _ _ h' => h')
  split
  · exact wpAny_bind ((Looks.of_pure (hb _)).here (wpAny_pure (by exact fin)))
  · exact wpAny_tryCatch (wpAny_bind ((Looks.of_pure (hb _)).here (wpAny_pure (by exact fin))))
open Builtin in
theorem ts_one (hu : A.units + 1 < cLine) (X : K.In s.heap) (I : InstAt s.heap x ox C od) {Q : Value → Shared → Prop}
    (hne : findIn K (.ref C) "__ne__" = some (some (.builtin "object.__ne__"))) (hs : findIn K (.ref C) "__eq__" = some (some (.ref f))) (hf : isFn K (.ref f) = true) (hm : mroIn K C (.type "object") = some true)
    (h : wpAny (model prog w) A.in1 (call (.ref f) [.ref x, b]) (fun v s' => ∃ r, v = .bool r ∧ Q (.bool (!r)) s') E s) : wpAny (model prog w) A (tryCompare (.ref x) "__ne__" b) (fun r s' => ∃ v, r = some v ∧ Q v s') E s := by
  have hb : ∀ self, bindSpecial (.builtin "object.__ne__") self = pure (.builtin "object.__ne__", [self]) := PySem.F.cmp_object.ne.bind
  unfold tryCompare
  refine wpAny_bind (ts_ifBoundB X I hne hb ?_)
  refine wpAny_call (codeAny_call_builtin PySem.F.cmp_object.ne.plain PySem.F.cmpEntry_ne (check_slot (i := "object.__ne__") (owner := "object") (n := "__ne__") PySem.F.cmpKind_ne PySem.F.cmpSplit_ne (I.type.andThen (looks_mroIn X hm)) (PySem.F.cmpArgs_ne _ _) ?_))
  unfold Builtin.«object.__ne__»
  refine wpAny_bind (m := slotArgs "__ne__" 1 _) (wpAny_pure ?_)
  refine wpAny_bind (m := cRoomFor _ _) (wpAny_cRoomFor hu ?_)
  refine wpAny_bind (m := callSpecialIfBound? (.ref x) (Str.ofString "__eq__") _) (ifBound_K X I hs hf (wpAny_mono h (fun r s' hq => ?_) fun _ _ y => y))
  obtain ⟨k, rfl, q⟩ := hq
  refine wpAny_bind (wpAny_truthy_bool ?_)
  exact wpAny_pure (wpAny_pure ⟨_, rfl, q⟩)
open PyProof.Rows in
theorem ne_K {Q : Value → Shared → Prop} (hu : A.units + 1 < cLine) (F : Fr h₀ L s.heap m) (X₀ : K.In h₀) (I : InstAt s.heap x ox C od) (hb : Looks (model prog w) s.heap (typeOf b) tb) (hn : notFirst K C tb = true)
    (hne : findIn K (.ref C) "__ne__" = some (some (.builtin "object.__ne__"))) (hs : findIn K (.ref C) "__eq__" = some (some (.ref f))) (hf : isFn K (.ref f) = true) (hm : mroIn K C (.type "object") = some true)
    (h : wpAny (model prog w) A.in1 (call (.ref f) [.ref x, b]) (fun v s' => ∃ r, v = .bool r ∧ Q (.bool (!r)) s') E s) : wpAny (model prog w) A (richCompare .NotEq (.ref x) b) Q E s := by
  have X := X₀.keeps F.keep
  have one := ts_one hu X I hne hs hf hm h
  unfold richCompare
  simp only [oneThing_ref]
  refine wpAny_holding (wpAny_bind (wpAny_cRoomFor (Nat.lt_of_succ_lt hu) ?_))
  refine wpAny_bind (I.type.here (wpAny_bind (hb.here ?_)))
  split
  · rename_i q
    have e : subIn K tb (.ref C) = some false := by
      rcases Bool.or_eq_true_iff.mp hn with e | e
      · rw [beq_iff_eq.mp e] at q; simp at q
      · exact beq_iff_eq.mp e
    refine wpAny_bind ((looks_subIn X e).here ?_)
    simp only [Bool.false_eq_true, if_false]
    refine wpAny_bind (wpAny_mono one (fun r s' z => ?_) fun _ _ e => e)
    obtain ⟨v, rfl, hq⟩ := z
    exact wpAny_pure hq
  · refine wpAny_bind (wpAny_pure ?_)
    simp only [Bool.false_eq_true, if_false]
    refine wpAny_bind (wpAny_mono one (fun r s' z => ?_) fun _ _ e => e)
    obtain ⟨v, rfl, hq⟩ := z
    exact wpAny_pure hq
end
end PySem.W
namespace TS
open PySem L2
noncomputable section
/-! ### the type of data -/
abbrev Tg := String ⊕ Nat
def tagD : D → Option Tg
  | .non => some (.inl "NoneType")
  | .bl _ => some (.inl "bool")
  | .int _ => some (.inl "int")
  | .str _ => some (.inl "str")
  | .lst _ => some (.inl "list")
  | .tup _ => some (.inl "tuple")
  | .dK _ _ => some (.inl "dict")
  | .dT _ _ => some (.inl "dict")
  | .obj n _ => some (.inr n)
  | _ => none
def TgV (M : Gm) : Tg → Value → Prop
  | .inl s, v => v = .type s
  | .inr n, v => ∃ C, M.G n = some C ∧ v = .ref C
/-- an own class whose instances have the type that they were made of -/
structure InsTy (K : PySem.W.Frag) (C : Addr) : Prop where
  cl : Cls K C
  ha : PySem.W.findIn K (.ref C) "__class__" = some (some (.builtin "object.__class__"))
  hn : PySem.W.specialIn K (.builtin "object.__class__") "__get__" = some (some (.builtin "getset_descriptor.__get__"))
  htk : PySem.W.takesIn K (.builtin "object.__class__") = some true
  hm : PySem.W.mroIn K C (.type "object") = some true
def InsTys (M : Gm) : Prop := ∀ n C, M.G n = some C → (∃ vs : List D, True) → InsTy M.K C
section
variable {M : Gm} {F H : Hp}
theorem tyx_of {d : D} {v : V} {t : Tg} (s : Same F H) (h : prep M F H d v) (e : tagD d = some t) (hI : ∀ n C, t = .inr n → M.G n = some C → InsTy M.K C) : ∃ tv, TgV M t tv ∧ TyX M.K H v tv := by
  cases d with
  | non => cases e; rw [prep_non h]; exact ⟨_, rfl, .base .non⟩
  | bl b => cases e; rw [prep_bl h]; exact ⟨_, rfl, .base (.bl b)⟩
  | int b => cases e; rw [prep_int h]; exact ⟨_, rfl, .base (.int b)⟩
  | str b => cases e; rw [prep_str h]; exact ⟨_, rfl, .base (.str b)⟩
  | lst ds =>
    cases e
    obtain ⟨a, vs, rfl, h2, _⟩ := prep_lst s h
    exact ⟨_, rfl, .base (.lst h2)⟩
  | tup ds =>
    cases e
    obtain ⟨a, vs, rfl, h2, _⟩ := prep_tup s h
    rcases h2 with (h2 | ⟨o, h2⟩) | ⟨o, its, n, h2, h3, _⟩
    · exact ⟨_, rfl, .base (.tup h2)⟩
    · exact ⟨_, rfl, .fTuple h2⟩
    · exact ⟨_, rfl, .kTuple h2 h3⟩
  | dK ks ds =>
    cases e
    obtain ⟨a, vs, rfl, h2, _⟩ := prep_dK s h
    exact ⟨_, rfl, .base (.dK h2)⟩
  | dT ks ds =>
    cases e
    obtain ⟨a, vs, rfl, h2, _⟩ := prep_dT s h
    exact ⟨_, rfl, .base (.dT h2)⟩
  | obj n ds =>
    cases e
    obtain ⟨a, C, dx, fs, rfl, h1, h2, _⟩ := prep_obj s h
    obtain ⟨k1, k2, k3, k4, k5⟩ := hI n C rfl h1
    exact ⟨_, ⟨C, h1, rfl⟩, .base (.ins h2 k1 k2 k3 k4 k5)⟩
  | scr ds => cases e
  | cls n => cases e
  | lam => cases e
end
/-! ### isinstance -/
/-- the answers by the type: what the written part says -/
def IsT (M : Gm) (us : List Value) (tab : Tg → Option Bool) : Prop := ∀ t b tv, tab t = some b → TgV M t tv → PySem.W.kitAny M.K tv us = some b ∧ ∀ n C, t = .inr n → M.G n = some C → InsTy M.K C
def fIsi (tab : Tg → Option Bool) (fe : FD) : FD := fun δ => (fe δ).bind fun d δ => match tagD d with
  | some t => (match tab t with
    | some b => .ok (.bl b) δ
    | none => .bad)
  | none => .bad
section
variable {M : Gm} {c : Cn M} {W : WX} {X : Cx} {a c1 : Expr} {tab : Tg → Option Bool} {fe : FD} {p pos : Pos}
theorem kitAny_one {K : PySem.W.Frag} {t u : Value} {b : Bool} (h : PySem.W.kitAny K t [u] = some b) : PySem.W.kitOne K t u = some b := by
  unfold PySem.W.kitAny at h
  cases q : PySem.W.kitOne K t u with
  | none => rw [q] at h; cases h
  | some k =>
    rw [q] at h
    cases k with
    | true => exact h
    | false => exact h
theorem di_isi {v : V} {u : Value} (hg : Gl X "isinstance") (hm : X.mg "isinstance" = none) (ha : DP M W X a fe) (hc : PE X c1 (tC v)) (hv : ClsV v u) (T : IsT M [u] tab) (hK : X.K = M.K := by rfl)
    (hs : starEach [a, c1] X.env = (false, eval a X.env) :: starEach [c1] X.env := by rfl) (hs2 : starEach [c1] X.env = (false, eval c1 X.env) :: starEach [] X.env := by rfl)
    (mk : ∀ {t : TA}, PA X [a, c1] t → PE X (.Call (.Name "isinstance" p) [a, c1] [] pos) (tCB (rIsi X.K) t)) :
    DI M W X (.Call (.Name "isinstance" p) [a, c1] [] pos) (fIsi tab fe) := by
  obtain ⟨t, pp, h⟩ := ha
  refine ⟨_, mk (pa_cons pp (pa_cons hc pa_nil hs2) hs), fun c F H σ δ Q ok post => h c F H σ δ _ ok (Post.bind post fun d δ1 x F1 H1 _ s1 ok1 r post => ?_)⟩
  split at post
  · rename_i t e1
    split at post
    · rename_i b e2
      obtain ⟨tv, k1, k2⟩ := tyx_of ok1.same r e1 (fun n C h1 h2 => by
        have : ∃ tv, TgV M t tv := ⟨.ref C, by subst h1; exact ⟨C, h2, rfl⟩⟩
        obtain ⟨tv, h3⟩ := this
        exact (T t b tv e2 h3).2 n C h1 h2)
      have k3 := kitAny_one (T t b tv e2 k1).1
      exact ⟨x, v, tv, u, b, rfl, hv, by rw [hK]; exact k2, by rw [hK]; exact k3, post.ok ok1 (rep_bl' _)⟩
    · exact post.elim
  · exact post.elim
theorem paired_len {α β : Type} {R : α → β → Prop} : ∀ {xs : List α} {ys : List β}, Paired R xs ys → xs.length = ys.length
  | _, _, .nil => rfl
  | _, _, .cons _ r => congrArg Nat.succ (paired_len r)
/-- isinstance(x, (c1, ..)): ct reads the tuple's items as the known values vs -/
theorem di_isiT {es : List Expr} {kt : Nat} {tp : Pos} {vs : List V} {us : List Value} {ct : TA} (ha : DP M W X a fe) (hc : PA X es ct) (hct : ∀ σ H (Q : List V → Hp → Prop), Q vs H → ct σ H Q) (hv : Paired ClsV vs us) (hl : vs.length ≤ 100) (T : IsT M us tab) (hK : X.K = M.K := by rfl)
    (hs : starEach [a, .Tuple es kt tp] X.env = (false, eval a X.env) :: starEach [.Tuple es kt tp] X.env := by rfl) (hs2 : starEach [.Tuple es kt tp] X.env = (false, eval (.Tuple es kt tp) X.env) :: starEach [] X.env := by rfl)
    (mk : ∀ {t : TA}, PA X [a, .Tuple es kt tp] t → PE X (.Call (.Name "isinstance" p) [a, .Tuple es kt tp] [] pos) (tCB (rIsiT X.K) t)) :
    DI M W X (.Call (.Name "isinstance" p) [a, .Tuple es kt tp] [] pos) (fIsi tab fe) := by
  obtain ⟨t, pp, h⟩ := ha
  refine ⟨_, mk (pa_cons pp (pa_cons (pe_tup hc) pa_nil hs2) hs), fun c F H σ δ Q ok post => h c F H σ δ _ ok (Post.bind post fun d δ1 x F1 H1 _ s1 ok1 r post => ?_)⟩
  split at post
  · rename_i t e1
    split at post
    · rename_i b e2
      have hI : ∀ n C, t = .inr n → M.G n = some C → InsTy M.K C := fun n C h1 h2 => (T t b (.ref C) e2 (by subst h1; exact ⟨C, h2, rfl⟩)).2 n C h1 h2
      refine hct _ _ _ ⟨Nat.le_trans hl (by rw [sizeLine_eq]; decide), fun q hq => ?_⟩
      have ok2 : Ok c F1 (upd H1 q (.tup vs)) σ δ1 := ok1.alloc hq
      have r2 : prep M F1 (upd H1 q (.tup vs)) d x := by
        rcases r with r | ⟨o, a', e3, e4, e5⟩
        · exact .inl r
        · obtain ⟨u', hu'⟩ := obAt_some e5
          exact .inr ⟨o, a', e3, e4, obAt_mono (Same.refl _) (upd_ne (ne_of_none hu' hq)) e5⟩
      obtain ⟨tv, k1, k2⟩ := tyx_of ok2.same r2 e1 hI
      exact ⟨x, q, vs, tv, us, b, rfl, upd_same, hv, by rw [hK]; exact k2, by rw [hK]; exact (T t b tv e2 k1).1, post.ok ok2 (rep_bl' _)⟩
    · exact post.elim
  · exact post.elim
end
end
end TS

set_option maxRecDepth 100000
set_option maxHeartbeats 4000000
/-! TSD: own == and !=, unary operators, defaults, keywords, star parameters, attribute stores, {}. -/
namespace TS
open PySem L2
noncomputable section
/-! ### two operands that are kept -/
def OpDI (M : Gm) (r : R2) (g : D → D → Option R) : Prop := ∀ (c : Cn M) (F H : Hp) (σ : St) (δ : Sl) (x y : V) (dx dy : D) (z : R) (Q : VK), Ok c F H σ δ → rep M F dx x → rep M F dy y → g dx dy = some z →
  (∀ v F' H', Same F F' → Ok c F' H' σ δ → repR c F' H' σ δ z v → Q v H') → r x y H Q
section
variable {M : Gm} {c : Cn M} {W : WX} {X : Cx} {a b : Expr} {pos : Pos} {fa fb : FD} {r r' : R2} {g g' : D → D → Option R}
theorem OpD.I (h : OpD M r g) : OpDI M r g := fun c F H σ δ x y dx dy z Q ok px py e q => h c F H σ δ x y dx dy z Q ok (.inl px) (.inl py) e q
theorem OpDI.or (h : OpDI M r g) (h' : OpDI M r' g') : OpDI M (fun x y H Q => r x y H Q ∨ r' x y H Q) (gOr g g') := by
  intro c F H σ δ x y dx dy z Q ok px py e q
  unfold gOr at e
  cases e1 : g dx dy with
  | some w => rw [e1] at e; cases e; exact .inl (h c F H σ δ x y dx dy _ Q ok px py e1 q)
  | none => rw [e1] at e; exact .inr (h' c F H σ δ x y dx dy z Q ok px py e q)
theorem d_opI {e : Expr} (mk : ∀ {ta tb : TE}, PE X a ta → PE X b tb → PE X e (tOp r ta tb)) (hd : OpDI M r g) (ha : DI M W X a fa) (hb : DI M W X b fb) : DE M W X e (fBin g fa fb) := by
  obtain ⟨ta, pa, ha⟩ := ha
  obtain ⟨tb, pb, hb⟩ := hb
  refine ⟨_, mk pa pb, fun c F H σ δ Q ok post => ha c F H σ δ _ ok (Post.bind post fun dx δ1 x F1 H1 _ s1 ok1 rx post => hb c F1 H1 σ δ1 _ ok1 (Post.bind post fun dy δ2 y F2 H2 _ s2 ok2 ry post => ?_))⟩
  cases e : g dx dy with
  | none => rw [e] at post; exact post.elim
  | some z => rw [e] at post; exact hd c F2 H2 σ δ2 x y dx dy z Q ok2 (rep_mono s2 _ _ rx) ry e post
/-! ### a test of two such operands -/
theorem dt_opI {op : CmpOp} {e : Expr} (mk : ∀ {ta tb : TE}, PE X a ta → PE X b tb → PE X e (tOp r ta tb)) (hd : OpDI M r g) (ha : DI M W X a fa) (hb : DI M W X b fb) : DI M W X e (frz (fBin g fa fb)) := (d_opI mk hd ha hb).frz
end
/-! ### own == -/
/-- the class at C has an own == that keeps f -/
structure EqC (P : Program) (w : World) (K : PySem.W.Frag) (mg : Str → Option Value) (base : Heap) (M : Gm) (k : Nat) (C : Addr) (f : Fm) : Prop where
  ex : ∃ g, PySem.W.findIn K (.ref C) "__eq__" = some (some (.ref g)) ∧ PySem.W.isFn K (.ref g) = true ∧ FnR P w K mg base (L2.CX P w) k g (spD M f)
  ne : PySem.W.findIn K (.ref C) "__ne__" = some (some (.builtin "object.__ne__"))
  ob : PySem.W.mroIn K C (.type "object") = some true
structure EqT (P : Program) (w : World) (K : PySem.W.Frag) (mg : Str → Option Value) (base : Heap) (M : Gm) (k : Nat) (tab : Nat → Option Fm) (oth : Nat → Tg → Bool) : Prop where
  at_ : ∀ n f C, tab n = some f → M.G n = some C → EqC P w K mg base M k C f
  ot : ∀ n C t tv, oth n t = true → M.G n = some C → TgV M t tv → PySem.W.notFirst M.K C tv = true ∧ ∀ n' C', t = .inr n' → M.G n' = some C' → InsTy M.K C'
def gOwnEq (ng : Bool) (tab : Nat → Option Fm) (oth : Nat → Tg → Bool) : D → D → Option R := fun x y => match x with
  | .obj n vs => (match tab n, tagD y with
    | some f, some t => if oth n t then (match f none [.obj n vs, y] with
      | .ok (.imm (.bl b)) _ => some (.imm (.bl (if ng then !b else b)))
      | _ => none) else none
    | _, _ => none)
  | _ => none
def E00 : XK := fun _ _ _ => False
def rOwnEq (K : PySem.W.Frag) (ng : Bool) (ok : Addr → Sp → Prop) : R2 := fun x y H Q => ∃ a C dx fs sp tv, x = .ref a ∧ H a = some (.ins C dx fs) ∧ ok C sp ∧ TyX K H y tv ∧ PySem.W.notFirst K C tv = true ∧
  sp [x, y] H (fun v H' => ∃ b, v = .bl b ∧ Q (.bl (if ng then !b else b)) H') E00
section
variable {X : Cx} {pins : List (Addr × Obj)} {σ : St} {H : Hp} {s : Shared}
theorem takes0 : Takes X W0 := fun u s' ⟨a, B, sI, pins, σ, H, cls, d, e, I, nb, up, sky, na, os, ag, w⟩ => w.elim
theorem run_fnA {A : Around} {k : Nat} {f : Addr} {sp : Sp} {Q : VK} {us : List Value} {vs : List V} (hA : A.frames = X.A.frames) (F : FnR X.prog X.w X.K X.mg X.base (CXX X) k f sp) (hr : Room k A) (I : Inv X pins σ H s) (r : Vals vs us) (h : sp vs H Q E00) :
    codeAny (model X.prog X.w) A (.call (.ref f) ⟨us, []⟩) (fun r s' => match r with | .ok (.ret v) => EP X pins σ Q v s' | .ok _ => False | .error e => X.xe e s') s := by
  have e0 : Env0 X.prog X.w X.K X.mg X.base A X.stack s H := by
    have e := I.env0
    exact ⟨by rw [hA]; exact e.frames, e.mod, e.bs, e.bsz, e.funs, e.frf, e.hok, e.bare⟩
  refine codeAny_mono (F A X.stack s H us vs Q E00 hr e0 r h) fun r s' hq => ?_
  cases r with
  | error e => exact passAt takes0 σ pins H s e s' I hq
  | ok fl =>
    cases fl with
    | ret u => exact I.after hq
    | next => exact False.elim hq
    | brk => exact False.elim hq
    | cont => exact False.elim hq
theorem op_ownEq {M : Gm} {k : Nat} {tab : Nat → Option Fm} {oth : Nat → Tg → Bool} (T : EqT X.prog X.w X.K X.mg X.base M k tab oth) (hr : Room k X.A) : OpR X (compareOp .Eq) (rOwnEq X.K false (okM M tab)) := by
  intro pins s σ H x y v u Q I rx ry h
  obtain ⟨a, C, dx, fs, sp, tv, rfl, ea, ⟨n, f, ht, hG, rfl⟩, ty, nf, hsp⟩ := h
  obtain ⟨⟨g, h1, h2, F⟩, _, _⟩ := T.at_ n f C ht hG
  obtain rfl : v = Value.ref a := rx
  obtain ⟨Pk, Z, p, _⟩ := kit_of I ry ty
  obtain ⟨mA, J, _⟩ := ins_get I.hok ea
  obtain ⟨od, J, _⟩ := J.look
  obtain ⟨m, hF⟩ := I.fr
  show wpAny (model X.prog X.w) X.A (richCompare .Eq (.ref a) u) (EP X pins σ Q) X.xe s
  refine PySem.W.cmp_K (op := .Eq) (tb := tv) hr.units0 hF I.ok.mod.kin J (Z.ty _ _ I.kIn p) nf h1 h2 ?_
  refine wpAny_call (codeAny_mono (run_fnA rfl F hr I (.cons (show RelV (V.ref a) (Value.ref a) from rfl) (.cons ry .nil)) hsp) fun r s' hq => ?_)
  cases r with
  | error e => exact hq
  | ok fl =>
    cases fl with
    | ret w =>
      obtain ⟨z, H', I', rz, b, ez, q⟩ := hq
      subst ez
      obtain rfl : w = Value.bool b := rz
      exact ⟨.bl b, H', I', rfl, q⟩
    | next => exact False.elim hq
    | brk => exact False.elim hq
    | cont => exact False.elim hq
theorem op_ownNe {M : Gm} {k : Nat} {tab : Nat → Option Fm} {oth : Nat → Tg → Bool} (T : EqT X.prog X.w X.K X.mg X.base M k tab oth) (hr : Room (k + 1) X.A) : OpR X (compareOp .NotEq) (rOwnEq X.K true (okM M tab)) := by
  intro pins s σ H x y v u Q I rx ry h
  obtain ⟨a, C, dx, fs, sp, tv, rfl, ea, ⟨n, f, ht, hG, rfl⟩, ty, nf, hsp⟩ := h
  obtain ⟨⟨g, h1, h2, F⟩, h3, h4⟩ := T.at_ n f C ht hG
  obtain rfl : v = Value.ref a := rx
  obtain ⟨Pk, Z, p, _⟩ := kit_of I ry ty
  obtain ⟨mA, J, _⟩ := ins_get I.hok ea
  obtain ⟨od, J, _⟩ := J.look
  obtain ⟨m, hF⟩ := I.fr
  show wpAny (model X.prog X.w) X.A (richCompare .NotEq (.ref a) u) (EP X pins σ Q) X.xe s
  refine PySem.W.ne_K (tb := tv) (Nat.lt_of_le_of_lt (Nat.add_le_add_left (by decide) _) hr.units) hF I.ok.mod.kin J (Z.ty _ _ I.kIn p) nf h3 h1 h2 h4 ?_
  refine wpAny_call (codeAny_mono (run_fnA rfl F hr.in1 I (.cons (show RelV (V.ref a) (Value.ref a) from rfl) (.cons ry .nil)) hsp) fun r s' hq => ?_)
  cases r with
  | error e => exact hq
  | ok fl =>
    cases fl with
    | ret w =>
      obtain ⟨z, H', I', rz, b, ez, q⟩ := hq
      subst ez
      obtain rfl : w = Value.bool b := rz
      exact ⟨b, rfl, .bl (!b), H', I', rfl, q⟩
    | next => exact False.elim hq
    | brk => exact False.elim hq
    | cont => exact False.elim hq
theorem od_ownEq {M : Gm} {k : Nat} {ng : Bool} {tab : Nat → Option Fm} {oth : Nat → Tg → Bool} (T : EqT X.prog X.w X.K X.mg X.base M k tab oth) (hK : X.K = M.K := by rfl) : OpDI M (rOwnEq X.K ng (okM M tab)) (gOwnEq ng tab oth) := by
  intro c F H σ δ x y dx dy z Q ok px py e q
  unfold gOwnEq at e
  split at e
  · rename_i n vs
    split at e
    · rename_i f t ht hty
      split at e
      · rename_i ho
        split at e
        · rename_i b io hf
          cases e
          have px0 := px
          unfold rep at px
          obtain ⟨a, C, dx, fs, rfl, h1, h2, h3, h4⟩ := px
          have hI : ∀ n' C', t = .inr n' → M.G n' = some C' → InsTy M.K C' := fun n' C' e1 e2 => (T.ot n C t (.ref C') ho h1 (by subst e1; exact ⟨C', e2, rfl⟩)).2 n' C' e1 e2
          obtain ⟨tv, k1, k2⟩ := tyx_of ok.same (.inl py) hty hI
          refine ⟨a, C, dx, fs, spD M f, tv, rfl, ok.same _ _ h2, ⟨n, f, ht, h1, rfl⟩, by rw [hK]; exact k2, by rw [hK]; exact (T.ot n C t tv ho h1 k1).1, F, none, 0, _, _, rfl, ok.same, ok.tb, reps_cons px0 (reps_cons py reps_nil), trivial, ?_⟩
          rw [hf]
          intro v F' H' st ra ia
          have ev : v = .bl b := by
            have z : rep M F' (.bl b) v := ra
            unfold rep at z; exact z
          exact ⟨b, ev, q _ F' H' st.grow (ok.stp st) rr_bl⟩
        · cases e
      · cases e
    · cases e
  · cases e
end
/-! ### unary minus -/
def fUnI (g : Int → Int) (fe : FD) : FD := fun δ => (fe δ).bind fun d δ => match d with
  | .int i => .ok (.int (g i)) δ
  | _ => .bad
section
variable {M : Gm} {c : Cn M} {W : WX} {X : Cx} {a b : Expr} {pos : Pos} {fa fb : FD}
theorem di_neg (ha : DI M W X a fa) : DI M W X (.UnaryOp .USub a pos) (fUnI (fun i => -i) fa) := by
  obtain ⟨t, p, h⟩ := ha
  refine ⟨_, pe_un un_neg p, fun c F H σ δ Q ok post => h c F H σ δ _ ok (Post.bind post fun d δ1 v F1 H1 _ s1 ok1 r post => ?_)⟩
  split at post
  · rename_i i _
    have ev : v = .int i := by unfold ρD rep at r; exact r
    exact ⟨i, ev, post.ok ok1 (rep_int' _)⟩
  · exact post.elim
/-! ### {} -/
theorem de_dnew : DE M W X (.Dict [] [] pos) (fun δ => .ok (.own (.dK [] [])) δ) :=
  ⟨_, pe_dnewK, fun c F H σ δ Q ok post => fun p hp => post.ok (ok.alloc hp) (ok.made hp ⟨[], upd_same, rfl, reps_nil⟩)⟩
theorem de_dnewT : DE M W X (.Dict [] [] pos) (fun δ => .ok (.own (.dT [] [])) δ) :=
  ⟨_, pe_dnewT, fun c F H σ δ Q ok post => fun p hp => post.ok (ok.alloc hp) (ok.made hp ⟨[], upd_same, rfl, reps_nil⟩)⟩
end
/-! ### x.f = e -/
def setF (vs : List D) (j : Nat) (d : D) : Option (List D) := if vs.length = j then some (vs ++ [d]) else if j < vs.length then some (vs.set j d) else none
theorem putF_new {f : Str} {v : V} : ∀ {fs : List (Str × V)}, f ∉ fs.map (·.1) → putF f v fs = fs ++ [(f, v)]
  | [], _ => rfl
  | (g, x) :: r, h => by
    simp only [List.map_cons, List.mem_cons, not_or] at h
    simp only [putF, if_neg (Ne.symm h.1), List.cons_append]
    rw [putF_new h.2]
theorem putF_at {f : Str} {v : V} : ∀ {fs : List (Str × V)} {j : Nat}, (fs.map (·.1))[j]? = some f → f ∉ (fs.map (·.1)).take j → putF f v fs = fs.set j (f, v)
  | [], j, h, _ => by simp at h
  | (g, x) :: r, 0, h, _ => by
    simp at h
    subst h
    simp [putF]
  | (g, x) :: r, j + 1, h, hn => by
    simp at h
    simp only [List.map_cons, List.take_succ_cons, List.mem_cons, not_or] at hn
    simp only [putF, if_neg (Ne.symm hn.1), List.set_cons_succ]
    rw [putF_at (by simpa using h) hn.2]
theorem setF_ok {M : Gm} {F : Hp} {n j : Nat} {f : Str} {vs vs' : List D} {d : D} {v : V} {fs : List (Str × V)} (hj : (M.nm n)[j]? = some f) (hn : f ∉ (M.nm n).take j) (h3 : fs.map (·.1) = (M.nm n).take vs.length) (h4 : reps M F vs (fs.map (·.2))) (rv : rep M F d v) (e : setF vs j d = some vs') :
    (putF f v fs).map (·.1) = (M.nm n).take vs'.length ∧ reps M F vs' ((putF f v fs).map (·.2)) := by
  have hjl : j < (M.nm n).length := (List.getElem?_eq_some_iff.mp hj).1
  unfold setF at e
  split at e
  · rename_i hl
    cases e
    rw [putF_new (by rw [h3, hl]; exact hn)]
    constructor
    · rw [List.map_append, h3, List.length_append, hl]
      show (M.nm n).take j ++ [f] = (M.nm n).take (j + 1)
      rw [List.take_succ, hj]; rfl
    · rw [List.map_append]; exact reps_append h4 (reps_cons rv reps_nil)
  · split at e
    · rename_i hl hlt
      cases e
      rw [putF_at (j := j) (by rw [h3, List.getElem?_take_of_lt hlt]; exact hj) (by rw [h3, List.take_take, Nat.min_eq_left (Nat.le_of_lt hlt)]; exact hn)]
      constructor
      · rw [List.map_set, List.length_set, h3]
        apply List.ext_getElem?
        intro i
        by_cases hi : j = i
        · subst hi
          rw [List.getElem?_set_self (by rw [List.length_take]; omega), List.getElem?_take_of_lt hlt, hj]
        · rw [List.getElem?_set_ne hi]
      · rw [List.map_set]; exact reps_set j h4 rv
    · cases e
def sFldS (i : Nat) (ix : Nat → Option Nat) (fe : FD) : FS := fun δ => (fe δ).bindS fun d δ1 => match δ1[i]? with
  | some (some (.own (.o n vs))) => (match ix n with
    | some j => (match setF vs j d with
      | some vs' => .nx (δ1.set i (some (.own (.o n vs'))))
      | none => .bad)
    | none => .bad)
  | some (some (.brw (.o n vs))) => (match ix n with
    | some j => (match setF vs j d with
      | some vs' => .nx (δ1.set i (some (.brw (.o n vs'))))
      | none => .bad)
    | none => .bad)
  | _ => .bad
section
variable {M : Gm} {c : Cn M} {W : WX} {X : Cx}
theorem ds_fld {o e : Expr} {i : Nat} {f : Str} {ix : Nat → Option Nat} {fe : FD} {pos pos' : Pos} (T : FldT M f ix) (hlen : ∀ n, (M.nm n).length < 1000) (ho : PE X o (tVar i)) (he : DI M W X e fe) (hK : X.K = M.K := by rfl) (hs : swapsWith e (some (.Attribute o f pos')) pos.line X.env = pure false := by rfl) :
    DS M W X (.Assign [.Attribute o f pos'] e pos) (sFldS i ix fe) := by
  obtain ⟨t, p, h⟩ := he
  refine ⟨_, ps_fld ho p hs, fun c F H σ δ E ok post => h c F H σ δ _ ok (PostS.ofE post fun d δ1 v F1 H1 _ s1 ok1 r post => ?_)⟩
  have key : ∀ (mkr : OB → R) (n : Nat) (vs : List D), (mkr = R.own ∨ mkr = R.brw) → δ1[i]? = some (some (mkr (.o n vs))) →
      PostS c W F1 (match ix n with | some j => (match setF vs j d with | some vs' => .nx (δ1.set i (some (mkr (.o n vs')))) | none => .bad) | none => .bad) E → ∃ v0, σ[i]? = some (some v0) ∧ ∃ a C dx fs, v0 = V.ref a ∧ H1 a = some (.ins C dx fs) ∧ Cls X.K C ∧ NoAttr X.K C f ∧ fs.length < 1000 ∧ E.nx σ (upd H1 a (.ins C dx (putF f v fs))) := by
    intro mkr n vs hk q post
    split at post
    · rename_i j hj
      split at post
      · rename_i vs' hv
        have hm : (mkr (.o n vs)).mu = true := by rcases hk with rfl | rfl <;> rfl
        obtain ⟨a, ob, ea, hf, hob, hkk⟩ := ok1.mus q hm
        have eob : ob = .o n vs := by
          rcases hk with rfl | rfl
          · rcases hkk with ⟨z, _⟩ | ⟨z, _⟩ <;> cases z; rfl
          · rcases hkk with ⟨z, _⟩ | ⟨z, _⟩ <;> cases z; rfl
        subst eob
        obtain ⟨C, dx, fs, h1, h2, h3, h4⟩ := hob
        obtain ⟨k1, k2, k3⟩ := T n j hj
        obtain ⟨p1, p2⟩ := setF_ok k2 k3 h3 h4 r hv
        refine ⟨.ref a, ea, a, C, dx, fs, rfl, h2, by rw [hK]; exact (k1 C h1).1, by rw [hK]; exact (k1 C h1).2, ?_, ?_⟩
        · have := congrArg List.length h3
          rw [List.length_map, List.length_take] at this
          have := hlen n
          omega
        · have rel : (mkr (.o n vs) = .own (.o n vs) ∧ mkr (.o n vs') = .own (.o n vs')) ∨ (mkr (.o n vs) = .brw (.o n vs) ∧ mkr (.o n vs') = .brw (.o n vs')) := by
            rcases hk with rfl | rfl
            · exact .inl ⟨rfl, rfl⟩
            · exact .inr ⟨rfl, rfl⟩
          exact post F1 _ σ (Same.refl _) (ok1.write q rel ea ⟨C, dx, _, h1, upd_same, p1, p2⟩)
      · exact post.elim
    · exact post.elim
  split at post
  · rename_i n vs q
    exact key R.own n vs (.inl rfl) q post
  · rename_i n vs q
    exact key R.brw n vs (.inr rfl) q post
  · exact post.elim
end
/-! ### defs: defaults, stars, keywords -/
section
variable {M : Gm} {P : Program} {w : World} {mg : Str → Option Value} {base : Heap} {k : Nat} {f : Addr} {fm : Fm}
def fmDfl (fm : Fm) (dd : List D) : Fm := fun io ds => fm io (ds ++ dd)
theorem fnR_dfl {dd : List D} {dvs : List V} (hr : ∀ F, reps M F dd dvs) (F : FnR P w M.K mg base (L2.CX P w) k f (fun vs H Q E => spD M fm (vs ++ dvs) H Q E)) : FnR P w M.K mg base (L2.CX P w) k f (spD M (fmDfl fm dd)) :=
  F.imp fun vs H Q E h => by
    obtain ⟨F0, io, a, ws, ds, rfl, s, tb, rs, ia, h⟩ := h
    exact ⟨F0, io, a, ws ++ dvs, ds ++ dd, by rw [List.append_assoc], s, tb, reps_append rs (hr F0), ia, h⟩
theorem fnR_raw {fd : FuncData} {ps : List Str} (F : FnOk P w M.K mg base (L2.CX P w) k f fd ps (spD M fm)) (hb : Binds M.K fd ps []) : FnR P w M.K mg base (L2.CX P w) k f (spD M fm) :=
  (F.raw (dvs := []) hb .nil).imp fun vs H Q E h => by rw [List.append_nil]; exact h
/-- *rest behind np parameters -/
def fmStar (np : Nat) (fm : Fm) : Fm := fun io ds => match io with
  | none => if decide (np ≤ ds.length ∧ ds.length ≤ 16777216) then fm none (ds.take np ++ [.tup (ds.drop np)]) else .bad
  | some _ => .bad
theorem star_imp {np : Nat} {vs : List V} {H : Hp} {Q : VK} {E : XK} (h : spD M (fmStar np fm) vs H Q E) : ∃ ws rest, vs = ws ++ rest ∧ ws.length = np ∧ rest.length ≤ sizeLine ∧ ∀ p, H p = Option.none → spD M fm (ws ++ [V.ref p]) (upd H p (.tup rest)) Q E := by
  obtain ⟨F, io, a, ws, ds, rfl, s, tb, rs, ia, h⟩ := h
  unfold fmStar at h
  cases io with
  | some o => exact h.elim
  | none =>
    by_cases hc : np ≤ ds.length ∧ ds.length ≤ 16777216
    · simp only [decide_eq_true hc, if_true] at h
      have hl := reps_length rs
      refine ⟨ws.take np, ws.drop np, by simp [ioV], by rw [List.length_take, hl]; omega, by rw [List.length_drop, hl, sizeLine_eq]; omega, fun p hp => ?_⟩
      have hF : F p = none := s.free hp
      have g : Same F (upd F p (.tup (ws.drop np))) := fun b o e => by rw [upd_ne (ne_of_none e hF)]; exact e
      have hs2 : Same (upd F p (.tup (ws.drop np))) (upd H p (.tup (ws.drop np))) := fun b o e => by
        by_cases q : b = p
        · subst q; rw [upd_same] at e ⊢; exact e
        · rw [upd_ne q] at e ⊢; exact s b o e
      refine ⟨upd F p (.tup (ws.drop np)), none, a, _, ds.take np ++ [.tup (ds.drop np)], rfl, hs2, (tb.alloc hp).frz upd_same rfl, reps_append (reps_mono g _ _ (reps_take np rs)) (reps_cons ?_ reps_nil), trivial, ?_⟩
      · unfold rep
        exact ⟨p, _, rfl, upd_same, reps_mono g _ _ (reps_drop np rs)⟩
      · have stp : ∀ {F' H' : Hp}, Stp M (upd F p (.tup (ws.drop np))) (upd H p (.tup (ws.drop np))) F' H' none → Stp M F H F' H' none := fun {F' H'} st => by
          refine ⟨g.trans st.grow, fun b o e1 n e2 => ?_, fun b o e1 n e2 => ?_, st.same, st.tb⟩
          · have q : b ≠ p := fun z => by rw [z, hp] at e1; cases e1
            exact st.nofz b o (by rw [upd_ne q]; exact e1) n (by rw [upd_ne q]; exact e2)
          · have q : b ≠ p := fun z => by rw [z, hp] at e1; cases e1
            exact st.kept b o (by rw [upd_ne q]; exact e1) n (fun z => by cases z)
        cases q : fm none (ds.take np ++ [.tup (ds.drop np)]) with
        | bad => rw [q] at h; exact h
        | exc x io' => rw [q] at h; exact fun cls d F' H' st xa ia => h cls d F' H' (stp st) xa ia
        | ok r io' =>
          rw [q] at h
          intro v F' H' st ra ia
          refine h v F' H' (stp st) ?_ ia
          cases r with
          | imm d => exact ra
          | brw o => exact ra
          | own o =>
            obtain ⟨b, rfl, k1, k2, k3⟩ := ra
            refine ⟨b, rfl, k1, fun u hu => ?_, k3⟩
            have z : b ≠ p := fun z => by rw [z, hp] at hu; cases hu
            exact k2 u (by rw [upd_ne z]; exact hu)
    · simp only [decide_eq_false hc] at h
      exact h.elim
theorem funD_star {x qual : Str} {params : Arguments} {body : List Stmt} {scope : Scope} {kws : List (Str × V)} {fd : FuncData} {N ps : List Str} {pv : Str} {g : FS} (F : FunD M.K x qual params body scope [] kws f fd) (S : FnScope N (ps ++ [pv]) scope) (hN : (ps ++ [pv]).length ≤ N.length)
    (hbi : ∀ (kV doc pm : Value) (an : Option Addr) (cdv ct : Value) (us rest : List Value), us.length = ps.length → bindArgs (PySem.W.fnOf x qual params body scope .none kV doc pm an cdv ct) ⟨us ++ rest, []⟩ = (newTuple rest >>= fun t => pure (ps.zip us ++ [(pv, t)])))
    (hb : ∀ (cdv : Value) (A : Around) (outer : List Env) (s : Shared) (H : Hp) (E : XK), Room k (A.deeper (PyProof.Rows.envOfC qual scope s.heap.objs.size f cdv)) →
      Takes (cxOf (L2.CX P w) P w M.K mg base N qual scope f cdv A outer s H E) (fun cls d _ H => E cls d H) →
      PassesOwn (model P w) (A.deeper (PyProof.Rows.envOfC qual scope s.heap.objs.size f cdv)) (PyProof.Rows.envOfC qual scope s.heap.objs.size f cdv) (cxOf (L2.CX P w) P w M.K mg base N qual scope f cdv A outer s H E).xe →
      DSs M (fun cls d _ H => E cls d H) (cxOf (L2.CX P w) P w M.K mg base N qual scope f cdv A outer s H E) body g) :
    FnR P w M.K mg base (L2.CX P w) (k + 1) f (spD M (fmStar ps.length (mir N.length (ps ++ [pv]).length g))) := by
  obtain ⟨oc, od, dV, kV, doc, pm, an, cdv, ct, osl, rfl, lk, hcd, hD, _⟩ := F.ex
  obtain rfl : dV = .none := by
    rcases hD with ⟨_, e⟩ | ⟨e, _⟩
    · exact e
    · exact absurd rfl e
  refine (FnR.star (sp := spD M (mir N.length (ps ++ [pv]).length g)) lk hcd S StX.cxUp (hbi kV doc pm an cdv ct) (fun A outer s H vs Q E hr h => ?_)).imp fun vs H Q E h => star_imp h
  obtain ⟨t, p, ht⟩ := hb cdv A outer s H E hr (takes_of rfl rfl rfl rfl) (passes_of rfl)
  exact ⟨t, p, body_ok hN h ht⟩
end
end
end TS

set_option maxRecDepth 100000
set_option maxHeartbeats 4000000
/-! TSE: calls with keywords. -/
namespace TS
open PySem L2
noncomputable section
/-- a promise by n positional values and values under the names ks -/
def FnK (P : Program) (w : World) (K : PySem.W.Frag) (mg : Str → Option Value) (base : Heap) (CX : CXT) (k : Nat) (f : Addr) (n : Nat) (ks : List Str) (sp : Sp) : Prop :=
  ∀ (A : Around) (outer : List Env) (s : Shared) (H : Hp) (us ws : List Value) (vs zs : List V) (Q : VK) (E : XK), Room k A → Env0 P w K mg base A outer s H → vs.length = n → zs.length = ks.length → Vals vs us → Vals zs ws → sp (vs ++ zs) H Q E →
    codeAny (model P w) A (.call (.ref f) ⟨us, ks.zip ws⟩) (CR CX outer P w H s Q E) s
section
variable {P : Program} {w : World} {K : PySem.W.Frag} {mg : Str → Option Value} {base : Heap} {CX : CXT} {j k n : Nat} {ks : List Str} {f : Addr} {sp sp' : Sp}
theorem FnK.mono (F : FnK P w K mg base CX j f n ks sp) (h : j ≤ k) : FnK P w K mg base CX k f n ks sp := fun A outer s H us ws vs zs Q E hr => F A outer s H us ws vs zs Q E (hr.mono h)
theorem FnOk.kw {fd : FuncData} {ps : List Str} {g : List Value → List Value → List Value} {gV : List V → List V → List V} (F : FnOk P w K mg base CX k f fd ps sp) (hb : KBn K fd ps n ks g gV)
    (hi : ∀ vs zs H Q E, vs.length = n → zs.length = ks.length → sp' (vs ++ zs) H Q E → sp (gV vs zs) H Q E) : FnK P w K mg base CX k f n ks sp' := by
  intro A outer s H us ws vs zs Q E hr e0 l1 l2 r rz h
  exact F.run A outer s H ⟨us, ks.zip ws⟩ (g us ws) (gV vs zs) Q E hr e0 (hb.to s us ws (e0.mod.kin.keeps fun b o e => (e0.bs b o e).1) (r.length.symm.trans l1) (rz.length.symm.trans l2)) (hb.rel r rz) (hi vs zs H Q E l1 l2 h)
end
/-- keywords in the order of the parameters, none of them a default -/
theorem kb_app {K : PySem.W.Frag} {x qual : Str} {params : Arguments} {body : List Stmt} {scope : Scope} {kws : List (Str × V)} {f : Addr} {fd : FuncData} {ps ks : List Str} {n : Nat} (F : FunD K x qual params body scope [] kws f fd)
    (h : ∀ (kV doc pm : Value) (an : Option Addr) (cdv ct : Value) (us ws : List Value), us.length = n → ws.length = ks.length → bindArgs (PySem.W.fnOf x qual params body scope .none kV doc pm an cdv ct) ⟨us, ks.zip ws⟩ = pure (ps.zip (us ++ ws))) : KBn K fd ps n ks (fun us ws => us ++ ws) (fun vs zs => vs ++ zs) := by
  obtain ⟨oc, od, dV, kV, doc, pm, an, cdv, ct, osl, rfl, lk, hcd, hD, hK⟩ := F.ex
  rcases hD with ⟨_, rfl⟩ | ⟨e, _⟩
  · exact ⟨fun s us ws _ l1 l2 => .of_eq (h kV doc pm an cdv ct us ws l1 l2), fun r rz => r.append rz⟩
  · exact absurd rfl e
section
variable {M : Gm} {P : Program} {w : World} {mg : Str → Option Value} {base : Heap} {k n : Nat} {ks : List Str} {f : Addr} {fm : Fm}
theorem fnK_app {fd : FuncData} {ps : List Str} (F : FnOk P w M.K mg base (L2.CX P w) k f fd ps (spD M fm)) (hb : KBn M.K fd ps n ks (fun us ws => us ++ ws) (fun vs zs => vs ++ zs)) : FnK P w M.K mg base (L2.CX P w) k f n ks (spD M fm) :=
  FnOk.kw F hb fun vs zs H Q E _ _ h => h
end
section
variable {X : Cx} {W : WX} {pins : List (Addr × Obj)} {σ : St} {H : Hp} {s : Shared}
theorem run_fnK {k n : Nat} {ks : List Str} {f : Addr} {sp : Sp} {Q : VK} {us ws : List Value} {vs zs : List V} (F : FnK X.prog X.w X.K X.mg X.base (CXX X) k f n ks sp) (hr : Room k X.A) (tk : Takes X W) (I : Inv X pins σ H s) (l1 : vs.length = n) (l2 : zs.length = ks.length) (r : Vals vs us) (rz : Vals zs ws) (h : sp (vs ++ zs) H Q (WE W σ)) :
    wpAny (model X.prog X.w) X.A (call (.ref f) us (ks.zip ws)) (EP X pins σ Q) X.xe s := by
  refine wpAny_call (codeAny_mono (F X.A X.stack s H us ws vs zs Q (WE W σ) hr I.env0 l1 l2 r rz h) fun r s' hq => ?_)
  cases r with
  | error e => exact passAt tk σ pins H s e s' I hq
  | ok fl =>
    cases fl with
    | ret u => exact I.after hq
    | next => exact False.elim hq
    | brk => exact False.elim hq
    | cont => exact False.elim hq
theorem run_makeKS {k n : Nat} {ks : List Str} {f C : Addr} {sp : Sp} {Q : VK} {us ws : List Value} {vs zs : List V} (M : Mk X.K C f) (F : FnK X.prog X.w X.K X.mg X.base (CXX X) k f (n + 1) ks sp) (hr : Room (k + 1) X.A) (tk : Takes X W) (I : Inv X pins σ H s) (l1 : vs.length = n) (l2 : zs.length = ks.length) (r : Vals vs us) (rz : Vals zs ws)
    (h : ∀ x dx, H x = Option.none → H dx = Option.none → dx ≠ x → sp (V.ref x :: (vs ++ zs)) (upd (upd H dx (.own x)) x (.ins C dx [])) (fun v H2 => v = .non ∧ Q (.ref x) H2) (WE W σ)) :
    wpAny (model X.prog X.w) X.A (call (.ref C) us (ks.zip ws)) (EP X pins σ Q) X.xe s := by
  have hq := h (s.heap.objs.size + 1) s.heap.objs.size (I.hok.fresh (Nat.le_succ _)) (I.hok.fresh (Nat.le_refl _)) (Nat.ne_of_lt (Nat.lt_succ_self _))
  have I2 := Inv.made (C := C) I
  have r2 : Vals (V.ref (s.heap.objs.size + 1) :: vs) (Value.ref (s.heap.objs.size + 1) :: us) := .cons rfl r
  refine wpAny_call (make_map (f := f) (kw := ks.zip ws) I.kIn M.makes M.init (beq_iff_eq.mp M.fn) (codeAny_mono (F _ X.stack _ _ (Value.ref (s.heap.objs.size + 1) :: us) ws (V.ref (s.heap.objs.size + 1) :: vs) zs _ (WE W σ) (hr.make C us (ks.zip ws)) (I2.env0.make C us (ks.zip ws)) (congrArg Nat.succ l1) l2 r2 rz hq) fun r s' hq' => ?_))
  cases r with
  | error e => exact passAt tk σ pins _ _ e s' I2 hq'
  | ok fl =>
    cases fl with
    | ret u =>
      obtain ⟨v, H', I3, rv, ev, q3⟩ := I2.after hq'
      subst ev
      exact ⟨rv, ⟨V.ref (s.heap.objs.size + 1), H', I3, rfl, q3⟩⟩
    | next => exact False.elim hq'
    | brk => exact False.elim hq'
    | cont => exact False.elim hq'
end
def tOwnK (W : WX) (n m : Nat) (sp : Sp) (t tk : TA) : TE := fun σ H Q => t σ H fun vs H1 => tk σ H1 fun zs H2 => vs.length = n ∧ zs.length = m ∧ sp (vs ++ zs) H2 Q (WE W σ)
def tMakeKS (W : WX) (C : Addr) (n m : Nat) (sp : Sp) (t tk : TA) : TE := fun σ H Q => t σ H fun vs H0 => tk σ H0 fun zs H1 => vs.length = n ∧ zs.length = m ∧ ∀ x dx, H1 x = Option.none → H1 dx = Option.none → dx ≠ x →
  sp (V.ref x :: (vs ++ zs)) (upd (upd H1 dx (.own x)) x (.ins C dx [])) (fun v H2 => v = .non ∧ Q (.ref x) H2) (WE W σ)
section
variable {X : Cx} {W : WX} {k n : Nat} {ks : List Str} {kws : List Keyword} {f C : Addr} {sp : Sp} {x m : Str} {e o : Expr} {es : List Expr} {ta : TE} {t tkw : TA} {p pos apos : Pos}
theorem pe_ownK (F : FnK X.prog X.w X.K X.mg X.base (CXX X) k f n ks sp) (hr : Room k X.A) (tk : Takes X W) (hg : Gl X x) (hm : X.mg x = some (.ref f)) (hk : PySem.W.keepIn X.K (.ref f) = true) (ha : PA X (e :: es) t) (hkw : PK X kws tkw)
    (hall : (backToKw pos (keywordEach kws X.env)).all (·.1.isSome) = true := by rfl) (hks : (backToKw pos (keywordEach kws X.env)).filterMap (·.1) = ks := by rfl)
    (hdb : (x == ("__debug__" : Str)) = false := by decide) (he : starEach (e :: es) X.env = (false, eval e X.env) :: starEach es X.env := by rfl)
    (hpl : ((backTo pos (starEach (e :: es) X.env)).any (·.1) || (backToKw pos (keywordEach kws X.env)).any (·.1.isNone)) = false := by rfl) :
    PE X (.Call (.Name x p) (e :: es) kws pos) (tOwnK W n ks.length sp t tkw) := by
  refine ⟨fun pins s σ H Q I h => ?_⟩
  refine wpAny_Call_Name_kw (ld_glob I hg hm ?_ hdb)
  refine PySem.W.callWith_KW (h₀ := X.base) I.ok.mod.kin hk hall (thn (ha.run pos pins s σ H _ I h) fun us s1 ⟨vs, H1, I1, r, q⟩ => ?_) hpl he
  refine thn (hkw.run pos pins s1 σ H1 _ I1 q) fun ws s2 ⟨zs, H2, I2, rz, l1, l2, q2⟩ => ⟨I2.kIn, ?_⟩
  rw [hks]
  exact run_fnK F hr tk I2 l1 l2 r rz q2
theorem pe_ownK0 (F : FnK X.prog X.w X.K X.mg X.base (CXX X) k f 0 ks sp) (hr : Room k X.A) (tk : Takes X W) (hg : Gl X x) (hm : X.mg x = some (.ref f)) (hk : PySem.W.keepIn X.K (.ref f) = true) (hkw : PK X kws tkw)
    (hall : (backToKw pos (keywordEach kws X.env)).all (·.1.isSome) = true := by rfl) (hks : (backToKw pos (keywordEach kws X.env)).filterMap (·.1) = ks := by rfl)
    (hdb : (x == ("__debug__" : Str)) = false := by decide) (hpl : ((backTo pos (starEach [] X.env)).any (·.1) || (backToKw pos (keywordEach kws X.env)).any (·.1.isNone)) = false := by rfl) :
    PE X (.Call (.Name x p) [] kws pos) (tOwnK W 0 ks.length sp tNil tkw) := by
  refine ⟨fun pins s σ H Q I h => ?_⟩
  refine wpAny_Call_Name_kw (ld_glob I hg hm ?_ hdb)
  refine PySem.W.callWith_KW0 (h₀ := X.base) I.ok.mod.kin hk hall ?_ hpl
  refine thn (hkw.run pos pins s σ H _ I h) fun ws s2 ⟨zs, H2, I2, rz, l1, l2, q2⟩ => ⟨I2.kIn, ?_⟩
  rw [hks]
  exact run_fnK (us := []) (vs := []) F hr tk I2 l1 l2 .nil rz q2
theorem pe_makeKS (M : Mk X.K C f) (F : FnK X.prog X.w X.K X.mg X.base (CXX X) k f (n + 1) ks sp) (hr : Room (k + 1) X.A) (tk : Takes X W) (hg : Gl X x) (hm : X.mg x = some (.ref C)) (ha : PA X (e :: es) t) (hkw : PK X kws tkw)
    (hall : (backToKw pos (keywordEach kws X.env)).all (·.1.isSome) = true := by rfl) (hks : (backToKw pos (keywordEach kws X.env)).filterMap (·.1) = ks := by rfl)
    (hdb : (x == ("__debug__" : Str)) = false := by decide) (he : starEach (e :: es) X.env = (false, eval e X.env) :: starEach es X.env := by rfl)
    (hpl : ((backTo pos (starEach (e :: es) X.env)).any (·.1) || (backToKw pos (keywordEach kws X.env)).any (·.1.isNone)) = false := by rfl) :
    PE X (.Call (.Name x p) (e :: es) kws pos) (tMakeKS W C n ks.length sp t tkw) := by
  refine ⟨fun pins s σ H Q I h => ?_⟩
  refine wpAny_Call_Name_kw (ld_glob I hg hm ?_ hdb)
  refine PySem.W.callWith_KW (h₀ := X.base) I.ok.mod.kin M.kp hall (thn (ha.run pos pins s σ H _ I h) fun us s1 ⟨vs, H1, I1, r, q⟩ => ?_) hpl he
  refine thn (hkw.run pos pins s1 σ H1 _ I1 q) fun ws s2 ⟨zs, H2, I2, rz, l1, l2, q2⟩ => ⟨I2.kIn, ?_⟩
  rw [hks]
  exact run_makeKS M F hr tk I2 l1 l2 r rz q2
theorem pe_makeKS0 (M : Mk X.K C f) (F : FnK X.prog X.w X.K X.mg X.base (CXX X) k f 1 ks sp) (hr : Room (k + 1) X.A) (tk : Takes X W) (hg : Gl X x) (hm : X.mg x = some (.ref C)) (hkw : PK X kws tkw)
    (hall : (backToKw pos (keywordEach kws X.env)).all (·.1.isSome) = true := by rfl) (hks : (backToKw pos (keywordEach kws X.env)).filterMap (·.1) = ks := by rfl)
    (hdb : (x == ("__debug__" : Str)) = false := by decide) (hpl : ((backTo pos (starEach [] X.env)).any (·.1) || (backToKw pos (keywordEach kws X.env)).any (·.1.isNone)) = false := by rfl) :
    PE X (.Call (.Name x p) [] kws pos) (tMakeKS W C 0 ks.length sp tNil tkw) := by
  refine ⟨fun pins s σ H Q I h => ?_⟩
  refine wpAny_Call_Name_kw (ld_glob I hg hm ?_ hdb)
  refine PySem.W.callWith_KW0 (h₀ := X.base) I.ok.mod.kin M.kp hall ?_ hpl
  refine thn (hkw.run pos pins s σ H _ I h) fun ws s2 ⟨zs, H2, I2, rz, l1, l2, q2⟩ => ⟨I2.kIn, ?_⟩
  rw [hks]
  exact run_makeKS (us := []) (vs := []) M F hr tk I2 l1 l2 .nil rz q2
end
/-! ### at the level of data -/
def DKw (M : Gm) (W : WX) (X : Cx) (kws : List Keyword) (f : FA) : Prop := ∃ t, PK X kws t ∧ ∀ (c : Cn M) F H σ δ Q, Ok c F H σ δ → Post c W F σ (ρA c) (f δ) Q → t σ H Q
def fOwnK (f : Fm) (n m : Nat) (fa fk : FA) : FE := fun δ => (fa δ).bind fun ds δ1 => (fk δ1).bind fun es δ2 => if ds.length = n ∧ es.length = m then outE (f none (ds ++ es)) δ2 else .bad
def fMakeK (c : Nat) (f : Fm) (n m : Nat) (fa fk : FA) : FE := fun δ => (fa δ).bind fun ds δ1 => (fk δ1).bind fun es δ2 => if ds.length = n ∧ es.length = m then (match f (some (.o c [])) (ds ++ es) with
  | .ok (.imm .non) (some (.o n' vs)) => if n' = c then .ok (.own (.o c vs)) δ2 else .bad
  | .exc x _ => .exc x δ2
  | _ => .bad) else .bad
section
variable {M : Gm} {c : Cn M} {W : WX} {X : Cx} {e : Expr} {es : List Expr} {kws : List Keyword} {fa fk : FA} {f : Fm} {n m : Nat}
theorem dk_nil : DKw M W X [] aNil := ⟨_, pk_nil, fun c F H σ δ Q ok post => post.ok ok reps_nil⟩
theorem dk_cons {fe : FD} {nm : Option Str} {kpos : Pos} (he : DI M W X e fe) (hr : DKw M W X kws fk) : DKw M W X (⟨nm, e, kpos⟩ :: kws) (aCons fe fk) := by
  obtain ⟨t, p, h⟩ := he
  obtain ⟨t', p', h'⟩ := hr
  refine ⟨_, pk_cons p p', fun c F H σ δ Q ok post => h c F H σ δ _ ok (Post.bind post fun d δ1 v F1 H1 _ s1 ok1 r post => h' c F1 H1 σ δ1 _ ok1 (Post.bind post fun ds δ2 vs F2 H2 _ s2 ok2 rs post => ?_))⟩
  exact post.ok ok2 (reps_cons (rep_mono s2 _ _ r) rs)
theorem d_ownK (mk : ∀ {t tk : TA}, PA X es t → PK X kws tk → PE X e (tOwnK W n m (spD M f) t tk)) (ha : DA M W X es fa) (hk : DKw M W X kws fk) : DE M W X e (fOwnK f n m fa fk) := by
  obtain ⟨t, p, h⟩ := ha
  obtain ⟨t', p', h'⟩ := hk
  refine ⟨_, mk p p', fun c F H σ δ Q ok post => h c F H σ δ _ ok (Post.bind post fun ds δ1 vs F1 H1 _ s1 ok1 rs post => h' c F1 H1 σ δ1 _ ok1 (Post.bind post fun es δ2 zs F2 H2 _ s2 ok2 rz post => ?_))⟩
  split at post
  · rename_i hl
    exact ⟨by rw [reps_length rs]; exact hl.1, by rw [reps_length rz]; exact hl.2, own_of ok2 (reps_append (reps_mono s2 _ _ rs) rz) post⟩
  · exact post.elim
theorem d_makeK {cn : Nat} {C : Addr} (mk : ∀ {t tk : TA}, PA X es t → PK X kws tk → PE X e (tMakeKS W C n m (spD M f) t tk)) (hG : M.G cn = some C) (ha : DA M W X es fa) (hk : DKw M W X kws fk) : DE M W X e (fMakeK cn f n m fa fk) := by
  obtain ⟨t, p, h⟩ := ha
  obtain ⟨t', p', h'⟩ := hk
  refine ⟨_, mk p p', fun c F H σ δ Q ok post => h c F H σ δ _ ok (Post.bind post fun ds δ1 vs F1 H1 _ s1 ok1 rs post => h' c F1 H1 σ δ1 _ ok1 (Post.bind post fun es δ2 zs F2 H2 _ s2 ok2 rz post => ?_))⟩
  split at post
  · rename_i hl
    exact ⟨by rw [reps_length rs]; exact hl.1, by rw [reps_length rz]; exact hl.2, fun x dx hx hdx hne => make_of ok2 hG (reps_append (reps_mono s2 _ _ rs) rz) post hx hdx hne⟩
  · exact post.elim
end
end
end TS

set_option maxRecDepth 100000
set_option maxHeartbeats 4000000
/-! TSF: one rule a construct, for printed derivations. -/
namespace TS
open PySem L2
noncomputable section
def gAdd : D → D → Option R := gOr (gI (fun _ _ => true) fun i j => i + j) (gOr gCat gCatS)
def gMul : D → D → Option R := gOr (gI CMulB fun i j => i * j) gRep
abbrev gSub : D → D → Option R := gI (fun _ _ => true) fun i j => i - j
def gFdiv : D → D → Option R := gOr (gI CDivB fun i j => i / j) (gI CDivNB fun i j => i.fdiv j)
abbrev gMod : D → D → Option R := gI CModB fun i j => i % j
abbrev gPow : D → D → Option R := gI CPowB fun i j => i ^ j.toNat
abbrev gLt : D → D → Option R := gB fun i j => decide (i < j)
abbrev gLe : D → D → Option R := gB fun i j => decide (i ≤ j)
abbrev gGt : D → D → Option R := gB fun i j => decide (j < i)
abbrev gGe : D → D → Option R := gB fun i j => decide (j ≤ i)
def rAddAll : R2 := fun x y H Q => rI0 (fun i j => .int (i + j)) x y H Q ∨ (rCat x y H Q ∨ (∃ i j, x = .str i ∧ y = .str j ∧ i.length + j.length ≤ sizeLine ∧ Q (.str (i ++ j)) H))
def rMulAll : R2 := fun x y H Q => rI CMulW (fun i j => .int (i * j)) x y H Q ∨ rRep x y H Q
section
variable {M : Gm} {c : Cn M} {W : WX} {X : Cx} {a b : Expr} {pos p : Pos} {fa fb : FD} {i : Nat}
theorem op_addAll : OpR X (binaryOp .Add) rAddAll := OpR.or op_add (OpR.or op_cat op_add_str)
theorem op_mulAll : OpR X (binaryOp .Mult) rMulAll := OpR.or op_mulW op_rep
theorem od_addAll : OpD M rAddAll gAdd := OpD.or od_I0 (OpD.or od_cat od_catS)
theorem od_mulAll : OpD M rMulAll gMul := OpD.or od_mul od_rep
theorem x_add (ha : DI M W X a fa) (hb : DP M W X b fb) : DE M W X (.BinOp a .Add b pos) (fBin gAdd fa fb) := d_op (fun h h' => pe_op op_addAll h h') od_addAll ha hb
theorem x_mul (ha : DI M W X a fa) (hb : DP M W X b fb) : DE M W X (.BinOp a .Mult b pos) (fBin gMul fa fb) := d_op (fun h h' => pe_op op_mulAll h h') od_mulAll ha hb
theorem x_sub (ha : DI M W X a fa) (hb : DP M W X b fb) : DE M W X (.BinOp a .Sub b pos) (fBin gSub fa fb) := d_op (fun h h' => pe_op op_sub h h') od_sub ha hb
theorem op_fdivNeg : OpR X (binaryOp .FloorDiv) (rI (fun _ j => j < 0 ∧ j.natAbs.log2 < 9000) fun i j => .int (i.fdiv j)) := opI fun i j _ _ _ _ _ hc q => PyProof.Rows.floordiv_int (by have := hc.1; omega) q (.inl (PyProof.noPylong_of_log2 hc.2))
theorem x_fdiv (ha : DI M W X a fa) (hb : DP M W X b fb) : DE M W X (.BinOp a .FloorDiv b pos) (fBin gFdiv fa fb) := d_op (fun h h' => pe_op (OpR.or op_fdivW op_fdivNeg) h h') (OpD.or od_fdiv od_fdivN) ha hb
theorem x_mod (ha : DI M W X a fa) (hb : DP M W X b fb) : DE M W X (.BinOp a .Mod b pos) (fBin gMod fa fb) := d_op (fun h h' => pe_op op_mod h h') od_mod ha hb
theorem x_pow (ha : DI M W X a fa) (hb : DP M W X b fb) : DE M W X (.BinOp a .Pow b pos) (fBin gPow fa fb) := d_op (fun h h' => pe_op op_pow h h') od_pow ha hb
theorem x_lt (ha : DI M W X a fa) (hb : DP M W X b fb) : DE M W X (.Compare a [.Lt] [b] pos) (fBin gLt fa fb) := d_op (fun h h' => pe_cmpR op_lt h h' (nomark _)) od_B ha hb
theorem x_le (ha : DI M W X a fa) (hb : DP M W X b fb) : DE M W X (.Compare a [.LtE] [b] pos) (fBin gLe fa fb) := d_op (fun h h' => pe_cmpR op_le h h' (nomark _)) od_B ha hb
theorem x_gt (ha : DI M W X a fa) (hb : DP M W X b fb) : DE M W X (.Compare a [.Gt] [b] pos) (fBin gGt fa fb) := d_op (fun h h' => pe_cmpR op_gt h h' (nomark _)) od_B ha hb
theorem x_ge (ha : DI M W X a fa) (hb : DP M W X b fb) : DE M W X (.Compare a [.GtE] [b] pos) (fBin gGe fa fb) := d_op (fun h h' => pe_cmpR op_ge h h' (nomark _)) od_B ha hb
theorem t_lt (ha : DI M W X a fa) (hb : DP M W X b fb) : DT M W X (.Compare a [.Lt] [b] pos) (fTst (fBin gLt fa fb)) := dt_op (fun h h' => pt_cmpR op_lt h h' (nomark _)) od_B ha hb
theorem t_le (ha : DI M W X a fa) (hb : DP M W X b fb) : DT M W X (.Compare a [.LtE] [b] pos) (fTst (fBin gLe fa fb)) := dt_op (fun h h' => pt_cmpR op_le h h' (nomark _)) od_B ha hb
theorem t_gt (ha : DI M W X a fa) (hb : DP M W X b fb) : DT M W X (.Compare a [.Gt] [b] pos) (fTst (fBin gGt fa fb)) := dt_op (fun h h' => pt_cmpR op_gt h h' (nomark _)) od_B ha hb
theorem t_ge (ha : DI M W X a fa) (hb : DP M W X b fb) : DT M W X (.Compare a [.GtE] [b] pos) (fTst (fBin gGe fa fb)) := dt_op (fun h h' => pt_cmpR op_ge h h' (nomark _)) od_B ha hb
theorem x_isN (ha : DI M W X a fa) (hb : DP M W X b fb) : DE M W X (.Compare a [.Is] [b] pos) (fBin gIsN fa fb) := d_op (fun h h' => pe_cmpR op_isN h h' (nomark _)) od_isN ha hb
theorem x_notN (ha : DI M W X a fa) (hb : DP M W X b fb) : DE M W X (.Compare a [.IsNot] [b] pos) (fBin gNotN fa fb) := d_op (fun h h' => pe_cmpR op_notN h h' (nomark _)) od_notN ha hb
theorem t_isN (ha : DI M W X a fa) (hb : DP M W X b fb) : DT M W X (.Compare a [.Is] [b] pos) (fTst (fBin gIsN fa fb)) := dt_op (fun h h' => pt_cmpR op_isN h h' (nomark _)) od_isN ha hb
theorem t_notN (ha : DI M W X a fa) (hb : DP M W X b fb) : DT M W X (.Compare a [.IsNot] [b] pos) (fTst (fBin gNotN fa fb)) := dt_op (fun h h' => pt_cmpR op_notN h h' (nomark _)) od_notN ha hb
theorem op_eqM {k : Nat} (hK : X.K = M.K) (hr : Room k X.A) : OpR X (compareOp .Eq) (rEqD M.K) := by rw [← hK]; exact op_eqD hr.units
theorem op_neM {k : Nat} (hK : X.K = M.K) (hr : Room k X.A) : OpR X (compareOp .NotEq) (rNeD M.K) := by rw [← hK]; exact op_neD hr.units
theorem x_eq {k : Nat} (hr : Room k X.A) (ha : DI M W X a fa) (hb : DP M W X b fb) (hK : X.K = M.K := by rfl) : DE M W X (.Compare a [.Eq] [b] pos) (fBin gEq fa fb) := d_op (fun h h' => pe_cmpR (op_eqM hK hr) h h' (nomark _)) od_eq ha hb
theorem x_ne {k : Nat} (hr : Room k X.A) (ha : DI M W X a fa) (hb : DP M W X b fb) (hK : X.K = M.K := by rfl) : DE M W X (.Compare a [.NotEq] [b] pos) (fBin gNe fa fb) := d_op (fun h h' => pe_cmpR (op_neM hK hr) h h' (nomark _)) od_ne ha hb
theorem t_eq {k : Nat} (hr : Room k X.A) (ha : DI M W X a fa) (hb : DP M W X b fb) (hK : X.K = M.K := by rfl) : DT M W X (.Compare a [.Eq] [b] pos) (fTst (fBin gEq fa fb)) := dt_op (fun h h' => pt_cmpR (op_eqM hK hr) h h' (nomark _)) od_eq ha hb
theorem t_ne {k : Nat} (hr : Room k X.A) (ha : DI M W X a fa) (hb : DP M W X b fb) (hK : X.K = M.K := by rfl) : DT M W X (.Compare a [.NotEq] [b] pos) (fTst (fBin gNe fa fb)) := dt_op (fun h h' => pt_cmpR (op_neM hK hr) h h' (nomark _)) od_ne ha hb
theorem t_eqV {k : Nat} (hr : Room k X.A) (ha : PE X a (tVar i)) (hb : DP M W X b fb) (hK : X.K = M.K := by rfl) : DT M W X (.Compare a [.Eq] [b] pos) (fTst (fBinV gEq i fb)) := dt_opV (fun h h' => pt_cmpR (op_eqM hK hr) h h' (nomark _)) od_eq ha hb
theorem t_neV {k : Nat} (hr : Room k X.A) (ha : PE X a (tVar i)) (hb : DP M W X b fb) (hK : X.K = M.K := by rfl) : DT M W X (.Compare a [.NotEq] [b] pos) (fTst (fBinV gNe i fb)) := dt_opV (fun h h' => pt_cmpR (op_neM hK hr) h h' (nomark _)) od_ne ha hb
theorem x_eqV {k : Nat} (hr : Room k X.A) (ha : PE X a (tVar i)) (hb : DP M W X b fb) (hK : X.K = M.K := by rfl) : DE M W X (.Compare a [.Eq] [b] pos) (fBinV gEq i fb) := d_opV (fun h h' => pe_cmpR (op_eqM hK hr) h h' (nomark _)) od_eq ha hb
theorem x_neV {k : Nat} (hr : Room k X.A) (ha : PE X a (tVar i)) (hb : DP M W X b fb) (hK : X.K = M.K := by rfl) : DE M W X (.Compare a [.NotEq] [b] pos) (fBinV gNe i fb) := d_opV (fun h h' => pe_cmpR (op_neM hK hr) h h' (nomark _)) od_ne ha hb
/-! with an own == -/
def gEqO (tab : Nat → Option Fm) (oth : Nat → Tg → Bool) : D → D → Option R := gOr gEq (gOwnEq false tab oth)
def gNeO (tab : Nat → Option Fm) (oth : Nat → Tg → Bool) : D → D → Option R := gOr gNe (gOwnEq true tab oth)
theorem x_eqO {k j : Nat} {tab : Nat → Option Fm} {oth : Nat → Tg → Bool} (T : EqT X.prog X.w X.K X.mg X.base M k tab oth) (hk : k ≤ j) (hr : Room j X.A) (ha : DI M W X a fa) (hb : DI M W X b fb) (hK : X.K = M.K := by rfl) : DE M W X (.Compare a [.Eq] [b] pos) (fBin (gEqO tab oth) fa fb) :=
  d_opI (fun h h' => pe_cmpR (OpR.or (op_eqM hK hr) (op_ownEq T (hr.mono hk))) h h' (nomark _)) (OpDI.or od_eq.I (od_ownEq T hK)) ha hb
theorem x_neO {k j : Nat} {tab : Nat → Option Fm} {oth : Nat → Tg → Bool} (T : EqT X.prog X.w X.K X.mg X.base M k tab oth) (hk : k + 1 ≤ j) (hr : Room j X.A) (ha : DI M W X a fa) (hb : DI M W X b fb) (hK : X.K = M.K := by rfl) : DE M W X (.Compare a [.NotEq] [b] pos) (fBin (gNeO tab oth) fa fb) :=
  d_opI (fun h h' => pe_cmpR (OpR.or (op_neM hK hr) (op_ownNe T (hr.mono hk))) h h' (nomark _)) (OpDI.or od_ne.I (od_ownEq T hK)) ha hb
theorem dt_opJ {e : Expr} {r : R2} {g : D → D → Option R} (mk : ∀ {ta tb : TE}, PE X a ta → PE X b tb → PT X e (tTest (tOp r ta tb))) (hd : OpDI M r g) (ha : DI M W X a fa) (hb : DI M W X b fb) : DT M W X e (fTst (fBin g fa fb)) := by
  obtain ⟨ta, pa, ha⟩ := ha
  obtain ⟨tb, pb, hb⟩ := hb
  refine ⟨_, mk pa pb, tst_of fun c F H σ δ Q ok post => ha c F H σ δ _ ok (Post.bind post fun dx δ1 x F1 H1 _ s1 ok1 rx post => hb c F1 H1 σ δ1 _ ok1 (Post.bind post fun dy δ2 y F2 H2 _ s2 ok2 ry post => ?_))⟩
  cases e : g dx dy with
  | none => rw [e] at post; exact post.elim
  | some z => rw [e] at post; exact hd c F2 H2 σ δ2 x y dx dy z Q ok2 (rep_mono s2 _ _ rx) ry e post
theorem t_eqO {k j : Nat} {tab : Nat → Option Fm} {oth : Nat → Tg → Bool} (T : EqT X.prog X.w X.K X.mg X.base M k tab oth) (hk : k ≤ j) (hr : Room j X.A) (ha : DI M W X a fa) (hb : DI M W X b fb) (hK : X.K = M.K := by rfl) : DT M W X (.Compare a [.Eq] [b] pos) (fTst (fBin (gEqO tab oth) fa fb)) :=
  dt_opJ (fun h h' => pt_cmpR (OpR.or (op_eqM hK hr) (op_ownEq T (hr.mono hk))) h h' (nomark _)) (OpDI.or od_eq.I (od_ownEq T hK)) ha hb
theorem t_neO {k j : Nat} {tab : Nat → Option Fm} {oth : Nat → Tg → Bool} (T : EqT X.prog X.w X.K X.mg X.base M k tab oth) (hk : k + 1 ≤ j) (hr : Room j X.A) (ha : DI M W X a fa) (hb : DI M W X b fb) (hK : X.K = M.K := by rfl) : DT M W X (.Compare a [.NotEq] [b] pos) (fTst (fBin (gNeO tab oth) fa fb)) :=
  dt_opJ (fun h h' => pt_cmpR (OpR.or (op_neM hK hr) (op_ownNe T (hr.mono hk))) h h' (nomark _)) (OpDI.or od_ne.I (od_ownEq T hK)) ha hb
/-! in, subscripts -/
theorem t_in {k : Nat} (hr : Room k X.A) (ha : DI M W X a fa) (hb : DP M W X b fb) (hm : behindInMarks .In b = false := by rfl) (hK : X.K = M.K := by rfl) : DT M W X (.Compare a [.In] [b] pos) (fTst (fBin gIn fa fb)) := dt_op (fun h h' => pt_cmpR (op_inAll hK (hu_of hr)) h h' hm) (od_in false rfl) ha hb
theorem t_notIn {k : Nat} (hr : Room k X.A) (ha : DI M W X a fa) (hb : DP M W X b fb) (hm : behindInMarks .NotIn b = false := by rfl) (hK : X.K = M.K := by rfl) : DT M W X (.Compare a [.NotIn] [b] pos) (fTst (fBin gNotIn fa fb)) := dt_op (fun h h' => pt_cmpR (op_notInAll hK (hu_of hr)) h h' hm) (od_in true rfl) ha hb
theorem x_in {k : Nat} (hr : Room k X.A) (ha : DI M W X a fa) (hb : DP M W X b fb) (hm : behindInMarks .In b = false := by rfl) (hK : X.K = M.K := by rfl) : DE M W X (.Compare a [.In] [b] pos) (fBin gIn fa fb) := d_op (fun h h' => pe_cmpR (op_inAll hK (hu_of hr)) h h' hm) (od_in false rfl) ha hb
theorem x_notIn {k : Nat} (hr : Room k X.A) (ha : DI M W X a fa) (hb : DP M W X b fb) (hm : behindInMarks .NotIn b = false := by rfl) (hK : X.K = M.K := by rfl) : DE M W X (.Compare a [.NotIn] [b] pos) (fBin gNotIn fa fb) := d_op (fun h h' => pe_cmpR (op_notInAll hK (hu_of hr)) h h' hm) (od_in true rfl) ha hb
theorem x_ix {k : Nat} (hr : Room k X.A) (ha : DI M W X a fa) (hb : DP M W X b fb) (hs : PlainIx b := by intro _ _; rfl) (hK : X.K = M.K := by rfl) : DE M W X (.Subscript a b pos) (fBin gIx fa fb) := d_op (fun h h' => pe_ix (ix_all hK (hu_of hr)) h h' hs) od_ix ha hb
theorem x_ixV {k : Nat} (hr : Room k X.A) (ha : PE X a (tVar i)) (hb : DP M W X b fb) (hs : PlainIx b := by intro _ _; rfl) (hK : X.K = M.K := by rfl) : DE M W X (.Subscript a b pos) (fBinV gIx i fb) := d_opV (fun h h' => pe_ix (ix_all hK (hu_of hr)) h h' hs) od_ix ha hb
end
/-! built-ins -/
section
variable {M : Gm} {c : Cn M} {W : WX} {X : Cx} {e a : Expr} {es : List Expr} {pos p : Pos} {fa : FA} {x : Str}
theorem e_b {id : String} {r : RC} {g : List D → Option R} (hc : CallR X (.builtin id) r) (hd : CallD M r g) (hv : bootBuiltins x = some (.builtin id)) (hg : Gl X x) (hm : X.mg x = none) (ha : DB M W X (e :: es) fa) (hn : x ≠ "__name__" := by decide) (hdb : (x == ("__debug__" : Str)) = false := by decide)
    (he : starEach (e :: es) X.env = (false, eval e X.env) :: starEach es X.env := by rfl) (hpl : (backTo pos (starEach es X.env)).any (·.1) = false := by rfl) : DE M W X (.Call (.Name x p) (e :: es) [] pos) (fCal g fa) := d_call (fun h => pe_callB hc hg hm hv h hn hdb he hpl) hd ha
theorem e_t {T : String} {r : RC} {g : List D → Option R} (hc : CallR X (.type T) r) (hd : CallD M r g) (hv : bootBuiltins x = some (.type T)) (hg : Gl X x) (hm : X.mg x = none) (ha : DB M W X (e :: es) fa) (hn : x ≠ "__name__" := by decide) (hdb : (x == ("__debug__" : Str)) = false := by decide)
    (he : starEach (e :: es) X.env = (false, eval e X.env) :: starEach es X.env := by rfl) (hpl : (backTo pos (starEach es X.env)).any (·.1) = false := by rfl) : DE M W X (.Call (.Name x p) (e :: es) [] pos) (fCal g fa) := d_call (fun h => pe_callTy hc hg hm hv h hn hdb he hpl) hd ha
theorem bt_len : bootBuiltins "len" = some (.builtin "len") := by decide +kernel
theorem bt_abs : bootBuiltins "abs" = some (.builtin "abs") := by decide +kernel
theorem bt_max : bootBuiltins "max" = some (.builtin "max") := by decide +kernel
theorem bt_min : bootBuiltins "min" = some (.builtin "min") := by decide +kernel
theorem bt_sum : bootBuiltins "sum" = some (.builtin "sum") := by decide +kernel
theorem bt_all : bootBuiltins "all" = some (.builtin "all") := by decide +kernel
theorem bt_any : bootBuiltins "any" = some (.builtin "any") := by decide +kernel
theorem bt_divmod : bootBuiltins "divmod" = some (.builtin "divmod") := by decide +kernel
theorem bt_repr : bootBuiltins "repr" = some (.builtin "repr") := by decide +kernel
theorem bt_isinstance : bootBuiltins "isinstance" = some (.builtin "isinstance") := by decide +kernel
theorem bt_int : bootBuiltins "int" = some (.type "int") := by decide +kernel
theorem bt_str : bootBuiltins "str" = some (.type "str") := by decide +kernel
theorem bt_list : bootBuiltins "list" = some (.type "list") := by decide +kernel
theorem bt_tuple : bootBuiltins "tuple" = some (.type "tuple") := by decide +kernel
theorem bt_bool : bootBuiltins "bool" = some (.type "bool") := by decide +kernel
theorem bt_dict : bootBuiltins "dict" = some (.type "dict") := by decide +kernel
variable (hg : Gl X x) (hm : X.mg x = none)
def gMax : List D → Option R := gcOr gMax2 gMaxL
def gMin : List D → Option R := gcOr gMin2 gMinL
theorem b_len (hg : Gl X "len") (hm : X.mg "len" = none) (ha : DB M W X [e] fa) (hK : X.K = M.K := by rfl) (he : starEach (e :: []) X.env = (false, eval e X.env) :: starEach [] X.env := by rfl) (hpl : (backTo pos (starEach [] X.env)).any (·.1) = false := by rfl) : DE M W X (.Call (.Name "len" p) [e] [] pos) (fCal gLen fa) := e_b (call_lenAll hK) cd_len bt_len hg hm ha (by decide) (by decide) he hpl
theorem b_abs (hg : Gl X "abs") (hm : X.mg "abs" = none) (ha : DB M W X [e] fa) (he : starEach (e :: []) X.env = (false, eval e X.env) :: starEach [] X.env := by rfl) (hpl : (backTo pos (starEach [] X.env)).any (·.1) = false := by rfl) : DE M W X (.Call (.Name "abs" p) [e] [] pos) (fCal gAbs fa) := e_b call_abs cd_abs bt_abs hg hm ha (by decide) (by decide) he hpl
theorem b_max (hc : X.calm = true) (hg : Gl X "max") (hm : X.mg "max" = none) (ha : DB M W X (e :: es) fa) (he : starEach (e :: es) X.env = (false, eval e X.env) :: starEach es X.env := by rfl) (hpl : (backTo pos (starEach es X.env)).any (·.1) = false := by rfl) : DE M W X (.Call (.Name "max" p) (e :: es) [] pos) (fCal gMax fa) := e_b (CallR.or (call_max2 hc) (cr_max hc)) (CallD.or cd_max2 cd_maxL) bt_max hg hm ha (by decide) (by decide) he hpl
theorem b_min (hc : X.calm = true) (hg : Gl X "min") (hm : X.mg "min" = none) (ha : DB M W X (e :: es) fa) (he : starEach (e :: es) X.env = (false, eval e X.env) :: starEach es X.env := by rfl) (hpl : (backTo pos (starEach es X.env)).any (·.1) = false := by rfl) : DE M W X (.Call (.Name "min" p) (e :: es) [] pos) (fCal gMin fa) := e_b (CallR.or (call_min2 hc) (cr_min hc)) (CallD.or cd_min2 cd_minL) bt_min hg hm ha (by decide) (by decide) he hpl
theorem b_sum (hc : X.calm = true) (hg : Gl X "sum") (hm : X.mg "sum" = none) (ha : DB M W X [e] fa) (he : starEach (e :: []) X.env = (false, eval e X.env) :: starEach [] X.env := by rfl) (hpl : (backTo pos (starEach [] X.env)).any (·.1) = false := by rfl) : DE M W X (.Call (.Name "sum" p) [e] [] pos) (fCal gSum fa) := e_b (cr_sum hc) cd_sum bt_sum hg hm ha (by decide) (by decide) he hpl
theorem b_all (hc : X.calm = true) (hg : Gl X "all") (hm : X.mg "all" = none) (ha : DB M W X [e] fa) (he : starEach (e :: []) X.env = (false, eval e X.env) :: starEach [] X.env := by rfl) (hpl : (backTo pos (starEach [] X.env)).any (·.1) = false := by rfl) : DE M W X (.Call (.Name "all" p) [e] [] pos) (fCal gAll fa) := e_b (cr_all hc) cd_all bt_all hg hm ha (by decide) (by decide) he hpl
theorem b_any (hc : X.calm = true) (hg : Gl X "any") (hm : X.mg "any" = none) (ha : DB M W X [e] fa) (he : starEach (e :: []) X.env = (false, eval e X.env) :: starEach [] X.env := by rfl) (hpl : (backTo pos (starEach [] X.env)).any (·.1) = false := by rfl) : DE M W X (.Call (.Name "any" p) [e] [] pos) (fCal gAny fa) := e_b (cr_any hc) cd_any bt_any hg hm ha (by decide) (by decide) he hpl
theorem b_divmod (hg : Gl X "divmod") (hm : X.mg "divmod" = none) (ha : DB M W X (e :: es) fa) (he : starEach (e :: es) X.env = (false, eval e X.env) :: starEach es X.env := by rfl) (hpl : (backTo pos (starEach es X.env)).any (·.1) = false := by rfl) : DE M W X (.Call (.Name "divmod" p) (e :: es) [] pos) (fCal gDivmod fa) := e_b call_divmodP cd_divmod bt_divmod hg hm ha (by decide) (by decide) he hpl
theorem b_repr (hg : Gl X "repr") (hm : X.mg "repr" = none) (ha : DB M W X [e] fa) (he : starEach (e :: []) X.env = (false, eval e X.env) :: starEach [] X.env := by rfl) (hpl : (backTo pos (starEach [] X.env)).any (·.1) = false := by rfl) : DE M W X (.Call (.Name "repr" p) [e] [] pos) (fCal gStrI fa) := e_b SkE.call_repr_int cd_strI bt_repr hg hm ha (by decide) (by decide) he hpl
theorem b_str (hg : Gl X "str") (hm : X.mg "str" = none) (ha : DB M W X [e] fa) (he : starEach (e :: []) X.env = (false, eval e X.env) :: starEach [] X.env := by rfl) (hpl : (backTo pos (starEach [] X.env)).any (·.1) = false := by rfl) : DE M W X (.Call (.Name "str" p) [e] [] pos) (fCal gStrI fa) := e_t call_str_int cd_strI bt_str hg hm ha (by decide) (by decide) he hpl
theorem b_int (hg : Gl X "int") (hm : X.mg "int" = none) (ha : DB M W X [e] fa) (he : starEach (e :: []) X.env = (false, eval e X.env) :: starEach [] X.env := by rfl) (hpl : (backTo pos (starEach [] X.env)).any (·.1) = false := by rfl) : DE M W X (.Call (.Name "int" p) [e] [] pos) (fCal gInt fa) := e_t call_int1 cd_int bt_int hg hm ha (by decide) (by decide) he hpl
theorem b_list (hg : Gl X "list") (hm : X.mg "list" = none) (ha : DB M W X [e] fa) (hK : X.K = M.K := by rfl) (he : starEach (e :: []) X.env = (false, eval e X.env) :: starEach [] X.env := by rfl) (hpl : (backTo pos (starEach [] X.env)).any (·.1) = false := by rfl) : DE M W X (.Call (.Name "list" p) [e] [] pos) (fCal gList fa) := e_t call_list_of (cd_list hK) bt_list hg hm ha (by decide) (by decide) he hpl
theorem b_tuple (hg : Gl X "tuple") (hm : X.mg "tuple" = none) (ha : DB M W X [e] fa) (hK : X.K = M.K := by rfl) (he : starEach (e :: []) X.env = (false, eval e X.env) :: starEach [] X.env := by rfl) (hpl : (backTo pos (starEach [] X.env)).any (·.1) = false := by rfl) : DE M W X (.Call (.Name "tuple" p) [e] [] pos) (fCal gTuple fa) := e_t call_tuple_of (cd_tuple hK) bt_tuple hg hm ha (by decide) (by decide) he hpl
/-- a built-in type by its name, an own class by its name -/
theorem k_ty {T : String} (hv : bootBuiltins x = some (.type T)) (hg : Gl X x) (hm : X.mg x = none) (hn : x ≠ "__name__" := by decide) (hdb : (x == ("__debug__" : Str)) = false := by decide) : PE X (.Name x pos) (tC (.ty T)) :=
  ⟨fun pins s σ H Q I h => ld_blt I hg hm hv ⟨.ty T, H, I, rfl, h⟩ hn hdb⟩
theorem b_isi {fe : FD} {c1 : Expr} {v : V} {u : Value} {tab : Tg → Option Bool} (hg : Gl X "isinstance") (hm : X.mg "isinstance" = none) (ha : DP M W X a fe) (hc : PE X c1 (tC v)) (hv : ClsV v u) (T : IsT M [u] tab) (hK : X.K = M.K := by rfl)
    (hs : starEach [a, c1] X.env = (false, eval a X.env) :: starEach [c1] X.env := by rfl) (hs2 : starEach [c1] X.env = (false, eval c1 X.env) :: starEach [] X.env := by rfl) (hpl : (backTo pos (starEach [c1] X.env)).any (·.1) = false := by rfl) :
    DI M W X (.Call (.Name "isinstance" p) [a, c1] [] pos) (fIsi tab fe) := di_isi hg hm ha hc hv T hK hs hs2 (fun h => pe_callB call_isi hg hm bt_isinstance h (by decide) (by decide) hs hpl)
theorem b_isiT {fe : FD} {es : List Expr} {kt : Nat} {tp : Pos} {vs : List V} {us : List Value} {ct : TA} {tab : Tg → Option Bool} (hg : Gl X "isinstance") (hm : X.mg "isinstance" = none) (ha : DP M W X a fe) (hc : PA X es ct) (hct : ∀ σ H (Q : List V → Hp → Prop), Q vs H → ct σ H Q) (hv : Paired ClsV vs us) (hl : vs.length ≤ 100) (T : IsT M us tab) (hK : X.K = M.K := by rfl)
    (hs : starEach [a, .Tuple es kt tp] X.env = (false, eval a X.env) :: starEach [.Tuple es kt tp] X.env := by rfl) (hs2 : starEach [.Tuple es kt tp] X.env = (false, eval (.Tuple es kt tp) X.env) :: starEach [] X.env := by rfl) (hpl : (backTo pos (starEach [.Tuple es kt tp] X.env)).any (·.1) = false := by rfl) :
    DI M W X (.Call (.Name "isinstance" p) [a, .Tuple es kt tp] [] pos) (fIsi tab fe) := di_isiT ha hc hct hv hl T hK hs hs2 (fun h => pe_callB call_isiT hg hm bt_isinstance h (by decide) (by decide) hs hpl)
end
/-! methods of lists -/
section
variable {M : Gm} {c : Cn M} {W : WX} {X : Cx} {o e : Expr} {es : List Expr} {apos cpos : Pos} {fa : FA} {i : Nat}
theorem m_append (ho : PE X o (tVar i)) (ha : DA M W X (e :: es) fa) (hb : attributeBase o "append" X.env (eval o X.env) = eval o X.env := by rfl) (hfew : ((backTo cpos (starEach (e :: es) X.env)).all (fun x => !x.1) && (backToKw cpos (keywordEach [] X.env)).all (fun x => x.1.isSome) && decide ((e :: es).length + ([] : List Keyword).length + (if ([] : List Keyword).isEmpty then 0 else 1) < 30)) = true := by rfl) (hl : (apos.endLine == cpos.line) = true := by rfl)
    (he : starEach (e :: es) X.env = (false, eval e X.env) :: starEach es X.env := by rfl) (hpl : (backTo cpos (starEach es X.env)).any (·.1) = false := by rfl) : DI M W X (.Call (.Attribute o "append" apos) (e :: es) [] cpos) (fMut i mAppend fa) :=
  d_mut (o := o) (fun h => pe_bm PySem.F.plainAttrs_list PySem.F.slot_list_append PySem.F.type_list_append mt_append ho h hb hfew hl he hpl) md_append ha
theorem m_pop (ho : PE X o (tVar i)) (ha : DA M W X (e :: es) fa) (hb : attributeBase o "pop" X.env (eval o X.env) = eval o X.env := by rfl) (hfew : ((backTo cpos (starEach (e :: es) X.env)).all (fun x => !x.1) && (backToKw cpos (keywordEach [] X.env)).all (fun x => x.1.isSome) && decide ((e :: es).length + ([] : List Keyword).length + (if ([] : List Keyword).isEmpty then 0 else 1) < 30)) = true := by rfl) (hl : (apos.endLine == cpos.line) = true := by rfl)
    (he : starEach (e :: es) X.env = (false, eval e X.env) :: starEach es X.env := by rfl) (hpl : (backTo cpos (starEach es X.env)).any (·.1) = false := by rfl) : DI M W X (.Call (.Attribute o "pop" apos) (e :: es) [] cpos) (fMut i mPop fa) :=
  d_mut (o := o) (fun h => pe_bm PySem.F.plainAttrs_list PySem.F.slot_list_pop PySem.F.type_list_pop mt_popAll ho h hb hfew hl he hpl) md_pop ha
theorem m_pop0 (ho : PE X o (tVar i)) (hb : attributeBase o "pop" X.env (eval o X.env) = eval o X.env := by rfl) (hl : (apos.endLine == cpos.line) = true := by rfl) : DI M W X (.Call (.Attribute o "pop" apos) [] [] cpos) (fMut i mPop aNil) :=
  d_mut0 (pe_bm0 PySem.F.plainAttrs_list PySem.F.slot_list_pop PySem.F.type_list_pop mt_popAll ho hb hl) md_pop
end
/-! calls without arguments -/
section
variable {M : Gm} {c : Cn M} {W : WX} {X : Cx} {e o : Expr} {f : Fm}
theorem d_own0 (mk : PE X e (tOwn W (spD M f) tNil)) : DE M W X e (fOwn f aNil) :=
  ⟨_, mk, fun c F H σ δ Q ok post => own_of ok reps_nil post⟩
theorem d_meth0 {m : Str} {tab : Nat → Option Fm} {fo : FD} (mk : ∀ {ta : TE}, PE X o ta → PE X e (tMethD W (okM M tab) m ta tNil)) (hn : ∀ n f, tab n = some f → m ∉ M.nm n) (ho : DI M W X o fo) : DE M W X e (fMeth tab fo aNil) := by
  obtain ⟨ta, pa, ho⟩ := ho
  refine ⟨_, mk pa, fun c F H σ δ Q ok post => ho c F H σ δ _ ok (Post.bind post fun d δ1 v F1 H1 _ s1 ok1 r post => ?_)⟩
  split at post
  · rename_i n vs _
    split at post
    · rename_i f hf
      have r0 := r
      unfold ρD rep at r
      obtain ⟨a, C, dx, fs, rfl, h1, h2, h3, h4⟩ := r
      refine ⟨a, C, dx, fs, spD M f, rfl, ok1.same _ _ h2, ⟨n, f, hf, h1, rfl⟩, lookup_none (fun z => hn n f hf (List.mem_of_mem_take (h3 ▸ z))), ?_⟩
      exact own_of ok1 (reps_cons r0 reps_nil) post
    · exact post.elim
  · exact post.elim
def fOwnK0 (f : Fm) (m : Nat) (fk : FA) : FE := fun δ => (fk δ).bind fun es δ2 => if es.length = m then outE (f none es) δ2 else .bad
theorem d_ownK0 {kws : List Keyword} {fk : FA} {m : Nat} (mk : ∀ {tk : TA}, PK X kws tk → PE X e (tOwnK W 0 m (spD M f) tNil tk)) (hk : DKw M W X kws fk) : DE M W X e (fOwnK0 f m fk) := by
  obtain ⟨t', p', h'⟩ := hk
  refine ⟨_, mk p', fun c F H σ δ Q ok post => h' c F H σ δ _ ok (Post.bind post fun es δ2 zs F2 H2 _ s2 ok2 rz post => ?_)⟩
  split at post
  · rename_i hl
    exact ⟨rfl, by rw [reps_length rz]; exact hl, own_of ok2 rz post⟩
  · exact post.elim
theorem reps_ints {M : Gm} {F : Hp} : ∀ (ns : List Int), reps M F (ns.map D.int) (ns.map V.int)
  | [] => reps_nil
  | n :: ns => reps_cons (rep_int' _) (reps_ints ns)
theorem di_cls {n : Nat} {C : Addr} (h : PE X e (tC (.ref C))) (hG : M.G n = some C) : DI M W X e (kD (.cls n)) := di_c h fun F => by unfold rep; exact ⟨C, hG, rfl⟩
end
/-! tables of isinstance -/
def kitAnyB (t : String) : List String → Option Bool
  | [] => some false
  | u :: us => match kitB t u with
    | some true => some true
    | some false => kitAnyB t us
    | none => none
def tabTy (us : List String) (own : Nat → Option Bool) : Tg → Option Bool
  | .inl t => kitAnyB t us
  | .inr n => own n
def tabOwn (bs : List (String × Bool)) (own : Nat → Option Bool) : Tg → Option Bool
  | .inl t => bs.lookup t
  | .inr n => own n
theorem kitAnyB_ok {K : PySem.W.Frag} {t : String} : ∀ {us : List String} {b : Bool}, kitAnyB t us = some b → PySem.W.kitAny K (.type t) (us.map Value.type) = some b
  | [], b, h => h
  | u :: us, b, h => by
    unfold kitAnyB at h
    split at h
    · rename_i e
      cases h
      exact kitAny_cons (kit_ty e) (fun z => by cases z) (fun _ => rfl)
    · rename_i e
      exact kitAny_cons (kit_ty e) (fun _ => kitAnyB_ok h) (fun z => by cases z)
    · cases h
theorem isT_ty {M : Gm} {us : List String} {own : Nat → Option Bool} (h : ∀ n b C, own n = some b → M.G n = some C → PySem.W.kitAny M.K (.ref C) (us.map Value.type) = some b ∧ InsTy M.K C) : IsT M (us.map Value.type) (tabTy us own) := by
  intro t b tv h1 h2
  cases t with
  | inl t =>
    obtain rfl : tv = .type t := h2
    exact ⟨kitAnyB_ok h1, fun n C z => by cases z⟩
  | inr n =>
    obtain ⟨C, e1, rfl⟩ := h2
    refine ⟨(h n b C h1 e1).1, fun n' C' z e2 => ?_⟩
    cases z
    rw [e1] at e2; cases e2
    exact (h n b C h1 e1).2
theorem isT_own {M : Gm} {u : Value} {bs : List (String × Bool)} {own : Nat → Option Bool} (h : ∀ t b, bs.lookup t = some b → PySem.W.kitOne M.K (.type t) u = some b) (h' : ∀ n b C, own n = some b → M.G n = some C → PySem.W.kitOne M.K (.ref C) u = some b ∧ InsTy M.K C) : IsT M [u] (tabOwn bs own) := by
  intro t b tv h1 h2
  cases t with
  | inl t =>
    obtain rfl : tv = .type t := h2
    exact ⟨kitAny_cons (h t b h1) (fun z => by rw [z]; exact kitAny_nil) (fun z => z), fun n C z => by cases z⟩
  | inr n =>
    obtain ⟨C, e1, rfl⟩ := h2
    refine ⟨kitAny_cons (h' n b C h1 e1).1 (fun z => by rw [z]; exact kitAny_nil) (fun z => z), fun n' C' z e2 => ?_⟩
    cases z
    rw [e1] at e2; cases e2
    exact (h' n b C h1 e1).2
theorem isT_own0 {M : Gm} {us : List String} : IsT M (us.map Value.type) (tabTy us fun _ => none) := isT_ty fun n b C z => by cases z
/-! measures of while loops -/
def muI (i : Nat) : Sl → Nat := fun δ => match δ[i]? with
  | some (some (.imm (.int n))) => n.natAbs + 2
  | _ => 0
def muN (i : Nat) : Sl → Nat := fun δ => match δ[i]? with
  | some (some (.imm (.lst ds))) => ds.length + 2
  | some (some (.own (.l ds))) => ds.length + 2
  | _ => 0
def muL (i : Nat) : Sl → Nat := fun δ => match δ[i]? with
  | some (some (.own (.l ds))) => ds.length + 2
  | _ => 0
end
end TS

set_option maxRecDepth 100000
set_option maxHeartbeats 4000000
/-! TSa: repr and str of data. -/
namespace TS
open PySem L2
noncomputable section
/-- what repr may be asked of -/
def shOk (p : PyData) : Bool := gd (p.showable = true ∧ p.hasDict = false ∧ p.depth ≤ 32 ∧ p.shown.length ≤ sizeLine)
def gRepr : List D → Option R
  | [d] => (match toP d with
    | some p => if shOk p then some (.imm (.str p.shown)) else none
    | none => none)
  | _ => none
/-- str: a text is itself -/
def gStr : List D → Option R
  | [.str x] => some (.imm (.str x))
  | [d] => gRepr [d]
  | _ => none
def rRepr (K : PySem.W.Frag) : RC := fun xs H Q => ∃ x p, xs = [x] ∧ Dp K H x p ∧ shOk p = true ∧ Q (.str p.shown) H
section
variable {X : Cx} {M : Gm} {W : WX} {e : Expr} {es : List Expr} {fa : FA} {p pos : Pos}
theorem call_reprD {k : Nat} (hr : Room k X.A) : CallR X (.builtin "repr") (rRepr X.K) := by
  rintro pins s σ H xs us Q I r ⟨x, p, rfl, hd, hs, q⟩
  obtain ⟨u, rfl, ru⟩ := vals1 r
  obtain ⟨h1, h2, h3, h4⟩ := of_gd hs
  obtain ⟨as, rd⟩ := Dp.reads I p x u hd ru
  have hu := hr.units
  cases hd with
  | non => cases ru; exact PySem.P.repr_of_none ⟨.str _, H, I.tok _, ⟨_, rfl⟩, q⟩
  | bl b => cases ru; exact PySem.P.repr_of_bool ⟨.str _, H, I.tok _, ⟨_, rfl⟩, q⟩
  | int i => obtain ⟨t, rfl⟩ := ru; exact PySem.P.repr_of_int (of_decide_eq_true h1) ⟨.str _, H, I.tok _, ⟨_, rfl⟩, q⟩
  | str y => obtain ⟨t, rfl⟩ := ru; exact PySem.P.repr_of_str ⟨.str _, H, I.tok _, ⟨_, rfl⟩, q⟩ h4
  | lst h h' =>
    cases ru
    exact repr_of_reads' rd h1 (PyData.noDict_hsm h2) hr.gu (by omega) (fun _ _ e => e) (fun h' u tk kp => ⟨.str _, H, I.kept kp, ⟨_, rfl⟩, q⟩) h4
  | tup h h' =>
    cases ru
    exact repr_of_reads' rd h1 (PyData.noDict_hsm h2) hr.gu (by omega) (fun _ _ e => e) (fun h' u tk kp => ⟨.str _, H, I.kept kp, ⟨_, rfl⟩, q⟩) h4
def rStr (K : PySem.W.Frag) : RC := fun xs H Q => (∃ y, xs = [.str y] ∧ Q (.str y) H) ∨ rRepr K xs H Q ∧ ∀ y, xs ≠ [.str y]
theorem call_strD {k : Nat} (hr : Room k X.A) : CallR X (.type "str") (rStr X.K) := by
  rintro pins s σ H xs us Q I r (⟨y, rfl, q⟩ | ⟨⟨x, p, rfl, hd, hs, q⟩, hne⟩)
  · exact SkE.call_str_str pins s σ H _ us Q I r ⟨y, rfl, q⟩
  obtain ⟨u, rfl, ru⟩ := vals1 r
  obtain ⟨h1, h2, h3, h4⟩ := of_gd hs
  obtain ⟨as, rd⟩ := Dp.reads I p x u hd ru
  have hu := hr.units
  cases hd with
  | non => cases ru; exact PySem.P.str_of_none ⟨.str _, H, I.tok _, ⟨_, rfl⟩, q⟩
  | bl b => cases ru; exact PySem.P.str_of_bool ⟨.str _, H, I.tok _, ⟨_, rfl⟩, q⟩
  | int i => obtain ⟨t, rfl⟩ := ru; exact PySem.P.str_of_int (of_decide_eq_true h1) ⟨.str _, H, I.tok _, ⟨_, rfl⟩, q⟩
  | str y => exact absurd rfl (hne y)
  | lst h h' =>
    cases ru
    exact str_of_reads rd h1 (PyData.noDict_hsm h2) hr.gu (by omega) (fun _ _ e => e) (fun h' u tk kp => ⟨.str _, H, I.kept kp, ⟨_, rfl⟩, q⟩) h4
  | tup h h' =>
    cases ru
    exact str_of_reads rd h1 (PyData.noDict_hsm h2) hr.gu (by omega) (fun _ _ e => e) (fun h' u tk kp => ⟨.str _, H, I.kept kp, ⟨_, rfl⟩, q⟩) h4
theorem cd_repr : CallD M (rRepr M.K) gRepr := by
  intro c F H σ δ xs ds z Q ok pxs e q
  unfold gRepr at e
  split at e
  · split at e
    · rename_i d p hp
      split at e
      · rename_i hs
        cases e
        obtain ⟨x, rfl, px⟩ := p1 pxs
        exact ⟨x, p, rfl, prep_dp ok.same px hp, hs, q _ F H (Same.refl _) ok rr_str⟩
      · cases e
    · cases e
  · cases e
theorem cd_str : CallD M (rStr M.K) gStr := by
  intro c F H σ δ xs ds z Q ok pxs e q
  unfold gStr at e
  split at e
  · rename_i y
    cases e
    obtain ⟨x, rfl, px⟩ := p1 pxs
    have : x = .str y := by
      rcases px with h | ⟨o, a, rfl, h, _⟩
      · unfold rep at h; exact h
      · cases o <;> cases h
    subst this
    exact .inl ⟨y, rfl, q _ F H (Same.refl _) ok rr_str⟩
  · rename_i d hd
    refine .inr ⟨cd_repr c F H σ δ xs [d] z Q ok pxs e q, fun y e2 => ?_⟩
    subst e2
    obtain ⟨x, e3, px⟩ := p1 pxs
    cases e3
    rcases px with h | ⟨o, a, h, _⟩
    · cases d <;> unfold rep at h
      case str z => cases h; exact hd _ rfl
      case lst ds => obtain ⟨_, _, h, _⟩ := h; cases h
      case scr ds => obtain ⟨_, _, h, _⟩ := h; cases h
      case tup ds => obtain ⟨_, _, h, _⟩ := h; cases h
      case dK ds => obtain ⟨_, _, h, _⟩ := h; cases h
      case dT ds => obtain ⟨_, _, h, _⟩ := h; cases h
      case obj ds => obtain ⟨_, _, _, _, h, _⟩ := h; cases h
      case cls ds => obtain ⟨_, _, h⟩ := h; cases h
      case lam => obtain ⟨_, h⟩ := M.lm.rf h; cases h
      all_goals cases h
    · cases h
  · cases e
theorem b_reprD {k : Nat} (hr : Room k X.A) (hg : Gl X "repr") (hm : X.mg "repr" = none) (ha : DB M W X [e] fa) (hK : X.K = M.K := by rfl) (he : starEach (e :: []) X.env = (false, eval e X.env) :: starEach [] X.env := by rfl) (hpl : (backTo pos (starEach [] X.env)).any (·.1) = false := by rfl) : DE M W X (.Call (.Name "repr" p) [e] [] pos) (fCal gRepr fa) := e_b (hK ▸ call_reprD hr) cd_repr bt_repr hg hm ha (by decide) (by decide) he hpl
theorem b_strD {k : Nat} (hr : Room k X.A) (hg : Gl X "str") (hm : X.mg "str" = none) (ha : DB M W X [e] fa) (hK : X.K = M.K := by rfl) (he : starEach (e :: []) X.env = (false, eval e X.env) :: starEach [] X.env := by rfl) (hpl : (backTo pos (starEach [] X.env)).any (·.1) = false := by rfl) : DE M W X (.Call (.Name "str" p) [e] [] pos) (fCal gStr fa) := e_t (hK ▸ call_strD hr) cd_str bt_str hg hm ha (by decide) (by decide) he hpl
end
end
end TS

set_option maxRecDepth 100000
set_option maxHeartbeats 4000000
/-! TSb: a, b = list; methods with keywords; own operators; extend. -/
namespace TS
open PySem L2
noncomputable section
/-! a, b = e, e a list -/
def tLst (n : Nat) (hs : List D → Sl → SR) : R → Sl → SR := fun r δ => match r with
  | .imm (.lst ds) => if ds.length = n then hs ds δ else .bad
  | .own (.l ds) => if ds.length = n then hs ds δ else .bad
  | _ => .bad
section
variable {M : Gm} {W : WX} {X : Cx}
theorem dg_lst {es : List Expr} {k n : Nat} {pos : Pos} {hs : List D → Sl → SR} (hc : X.calm = true) (h : DGs M W X es hs) (hK : X.K = M.K := by rfl) (hn : (assignEach es X.env).length = n := by rfl) (hst : (assignEach es X.env).findIdx? (·.1) = none := by rfl) : DG M W X (.Tuple es k pos) (tLst n hs) := by
  obtain ⟨g, p, h⟩ := h
  refine ⟨_, pg_lst hc p hn hst, fun c F H σ δ v r Q ok rr post => ?_⟩
  unfold tLst at post
  split at post
  · split at post
    · rename_i ds hl
      have z : rep M F (.lst ds) v := rr
      unfold rep at z
      obtain ⟨a, vs, rfl, h2, h3⟩ := z
      exact ⟨a, vs, rfl, SqL.of (ok.same _ _ h2), by rw [reps_length h3]; exact hl, h c F H σ δ vs ds Q ok h3 post⟩
    · exact post.elim
  · split at post
    · rename_i ds hl
      obtain ⟨a, rfl, k1, k2, ⟨vs, k3, k4⟩, k5⟩ := rr
      exact ⟨a, vs, rfl, SqL.of k3, by rw [reps_length k4]; exact hl, h c F H σ δ vs ds Q ok k4 post⟩
    · exact post.elim
  · exact post.elim
theorem tgt_lst {n : Nat} {hs : List D → Sl → SR} (h : Tgs hs) : Tgt (tLst n hs) := fun r δ => by
  unfold tLst
  split
  · split
    · exact h _ _
    · exact .inr (.inr rfl)
  · split
    · exact h _ _
    · exact .inr (.inr rfl)
  · exact .inr (.inr rfl)
end
/-! o.m(.., k=..) -/
section
variable {X : Cx} {W : WX} {k n : Nat} {ks : List Str} {m : Str} {o e : Expr} {es : List Expr} {kws : List Keyword} {ta : TE} {t tkw : TA} {pos apos : Pos}
structure MethOkK (X : Cx) (k : Nat) (m : Str) (n : Nat) (ks : List Str) (ok : Addr → Sp → Prop) : Prop where
  at_ : ∀ C sp, ok C sp → ∃ g, Cls X.K C ∧ Meth X.K C m g ∧ FnK X.prog X.w X.K X.mg X.base (CXX X) k g n ks sp
def tMethK (W : WX) (ok : Addr → Sp → Prop) (m : Str) (n l : Nat) (ta : TE) (t tk : TA) : TE := fun σ H Q => ta σ H fun x H1 => ∃ a C dx fs sp, x = .ref a ∧ H1 a = some (.ins C dx fs) ∧ ok C sp ∧ fs.lookup m = none ∧ t σ H1 fun vs H2 => tk σ H2 fun zs H3 => vs.length = n ∧ zs.length = l ∧ sp (x :: (vs ++ zs)) H3 Q (WE W σ)
theorem pe_methK {ok : Addr → Sp → Prop} {pl : Sem Bool} (he : PE X o ta) (T : MethOkK X k m (n + 1) ks ok) (hr : Room k X.A) (tk : Takes X W) (ha : PA X (e :: es) t) (hkw : PK X kws tkw)
    (hall : (backToKw pos (keywordEach kws X.env)).all (·.1.isSome) = true := by rfl) (hks : (backToKw pos (keywordEach kws X.env)).filterMap (·.1) = ks := by rfl)
    (hst : starEach (e :: es) X.env = (false, eval e X.env) :: starEach es X.env := by rfl)
    (hpl : ((backTo pos (starEach (e :: es) X.env)).any (·.1) || (backToKw pos (keywordEach kws X.env)).any (·.1.isNone)) = false := by rfl)
    (ht : eval (.Call (.Attribute o m apos) (e :: es) kws pos) X.env = (do
      let ov ← eval o X.env
      standAt apos.atName
      let (f, first) ← holding [ov] (getMethod ov m pl)
      callWith pos f first (backTo pos (starEach (e :: es) X.env)) (backToKw pos (keywordEach kws X.env))) := by rfl) :
    PE X (.Call (.Attribute o m apos) (e :: es) kws pos) (tMethK W ok m n ks.length ta t tkw) := by
  refine ⟨fun pins s σ H Q I h => ?_⟩
  refine PySem.W.methodCall_KW (pl := pl) (thn (he.run pins s σ H _ I h) fun u s1 ⟨x, H1, I1, rx, a, C, dx, fs, sp, ex, ea, hok, l, q⟩ => ?_) ht
  obtain ⟨g, c, hm, F⟩ := T.at_ C sp hok
  subst ex
  obtain rfl : u = Value.ref a := rx
  refine getmeth_ok I1 ea c hm l ?_
  refine PySem.W.callWith_KW (first := [.ref a]) (h₀ := X.base) I.ok.mod.kin hm.kp hall (thn (ha.run pos pins s1 σ H1 _ I1 q) fun us s2 ⟨vs, H2, I2, r, q2⟩ => ?_) hpl hst
  refine thn (hkw.run pos pins s2 σ H2 _ I2 q2) fun ws s3 ⟨zs, H3, I3, rz, l1, l2, q3⟩ => ⟨I3.kIn, ?_⟩
  rw [hks]
  exact run_fnK (us := .ref a :: us) (vs := .ref a :: vs) F hr tk I3 (congrArg Nat.succ l1) l2 (.cons rfl r) rz q3
theorem pe_methK0 {ok : Addr → Sp → Prop} {pl : Sem Bool} (he : PE X o ta) (T : MethOkK X k m 1 ks ok) (hr : Room k X.A) (tk : Takes X W) (hkw : PK X kws tkw)
    (hall : (backToKw pos (keywordEach kws X.env)).all (·.1.isSome) = true := by rfl) (hks : (backToKw pos (keywordEach kws X.env)).filterMap (·.1) = ks := by rfl)
    (hpl : ((backTo pos (starEach [] X.env)).any (·.1) || (backToKw pos (keywordEach kws X.env)).any (·.1.isNone)) = false := by rfl)
    (ht : eval (.Call (.Attribute o m apos) [] kws pos) X.env = (do
      let ov ← eval o X.env
      standAt apos.atName
      let (f, first) ← holding [ov] (getMethod ov m pl)
      callWith pos f first (backTo pos (starEach [] X.env)) (backToKw pos (keywordEach kws X.env))) := by rfl) :
    PE X (.Call (.Attribute o m apos) [] kws pos) (tMethK W ok m 0 ks.length ta tNil tkw) := by
  refine ⟨fun pins s σ H Q I h => ?_⟩
  refine PySem.W.methodCall_KW (pl := pl) (thn (he.run pins s σ H _ I h) fun u s1 ⟨x, H1, I1, rx, a, C, dx, fs, sp, ex, ea, hok, l, q⟩ => ?_) ht
  obtain ⟨g, c, hm, F⟩ := T.at_ C sp hok
  subst ex
  obtain rfl : u = Value.ref a := rx
  refine getmeth_ok I1 ea c hm l ?_
  refine PySem.W.callWith_KW0 (first := [.ref a]) (h₀ := X.base) I.ok.mod.kin hm.kp hall (thn (hkw.run pos pins s1 σ H1 _ I1 q) fun ws s3 ⟨zs, H3, I3, rz, l1, l2, q3⟩ => ⟨I3.kIn, ?_⟩) hpl
  rw [hks]
  exact run_fnK (us := [.ref a]) (vs := [.ref a]) F hr tk I3 rfl l2 (.cons rfl .nil) rz q3
end
section
variable {M : Gm} {W : WX} {X : Cx} {e o : Expr} {es : List Expr} {kws : List Keyword} {fa fk : FA} {n l : Nat}
def fMethK (tab : Nat → Option Fm) (n l : Nat) (fo : FD) (fa fk : FA) : FE := fun δ => (fo δ).bind fun d δ1 => match d with
  | .obj c vs => (match tab c with
    | some f => (fa δ1).bind fun ds δ2 => (fk δ2).bind fun es δ3 => if ds.length = n ∧ es.length = l then outE (f none (.obj c vs :: (ds ++ es))) δ3 else .bad
    | none => .bad)
  | _ => .bad
theorem d_methK {m : Str} {tab : Nat → Option Fm} {fo : FD} (mk : ∀ {ta : TE} {t tk : TA}, PE X o ta → PA X es t → PK X kws tk → PE X e (tMethK W (okM M tab) m n l ta t tk)) (hn : ∀ n f, tab n = some f → m ∉ M.nm n) (ho : DI M W X o fo) (ha : DA M W X es fa) (hk : DKw M W X kws fk) : DE M W X e (fMethK tab n l fo fa fk) := by
  obtain ⟨ta, pa, ho⟩ := ho
  obtain ⟨t, p, h⟩ := ha
  obtain ⟨t', p', h'⟩ := hk
  refine ⟨_, mk pa p p', fun c F H σ δ Q ok post => ho c F H σ δ _ ok (Post.bind post fun d δ1 v F1 H1 _ s1 ok1 r post => ?_)⟩
  split at post
  · rename_i c0 vs _
    split at post
    · rename_i f hf
      have r0 := r
      unfold ρD rep at r
      obtain ⟨a, C, dx, fs, rfl, h1, h2, h3, h4⟩ := r
      refine ⟨a, C, dx, fs, spD M f, rfl, ok1.same _ _ h2, ⟨c0, f, hf, h1, rfl⟩, lookup_none (fun z => hn c0 f hf (List.mem_of_mem_take (h3 ▸ z))), h c F1 H1 σ δ1 _ ok1 (Post.bind post fun ds δ2 ws F2 H2 _ s2 ok2 rs post => h' c F2 H2 σ δ2 _ ok2 (Post.bind post fun es δ3 zs F3 H3 _ s3 ok3 rz post => ?_))⟩
      split at post
      · rename_i hl
        exact ⟨by rw [reps_length rs]; exact hl.1, by rw [reps_length rz]; exact hl.2, own_of ok3 (reps_cons (rep_mono (s2.trans s3) _ _ r0) (reps_append (reps_mono s3 _ _ rs) rz)) post⟩
      · exact post.elim
    · exact post.elim
  · exact post.elim
theorem d_methK0 {m : Str} {tab : Nat → Option Fm} {fo : FD} (mk : ∀ {ta : TE} {tk : TA}, PE X o ta → PK X kws tk → PE X e (tMethK W (okM M tab) m 0 l ta tNil tk)) (hn : ∀ n f, tab n = some f → m ∉ M.nm n) (ho : DI M W X o fo) (hk : DKw M W X kws fk) : DE M W X e (fMethK tab 0 l fo aNil fk) := by
  obtain ⟨ta, pa, ho⟩ := ho
  obtain ⟨t', p', h'⟩ := hk
  refine ⟨_, mk pa p', fun c F H σ δ Q ok post => ho c F H σ δ _ ok (Post.bind post fun d δ1 v F1 H1 _ s1 ok1 r post => ?_)⟩
  split at post
  · rename_i c0 vs _
    split at post
    · rename_i f hf
      have r0 := r
      unfold ρD rep at r
      obtain ⟨a, C, dx, fs, rfl, h1, h2, h3, h4⟩ := r
      refine ⟨a, C, dx, fs, spD M f, rfl, ok1.same _ _ h2, ⟨c0, f, hf, h1, rfl⟩, lookup_none (fun z => hn c0 f hf (List.mem_of_mem_take (h3 ▸ z))), h' c F1 H1 σ δ1 _ ok1 (Post.bind post fun es δ3 zs F3 H3 _ s3 ok3 rz post => ?_)⟩
      split at post
      · rename_i hl
        exact ⟨rfl, by rw [reps_length rz]; exact hl.2, own_of ok3 (reps_cons (rep_mono s3 _ _ r0) rz) post⟩
      · exact post.elim
    · exact post.elim
  · exact post.elim
theorem methOkK_of {k : Nat} {m : Str} {ks : List Str} {tab : Nat → Option Fm} {M : Gm} (h : ∀ n0 f, tab n0 = some f → ∃ C g, M.G n0 = some C ∧ Cls X.K C ∧ Meth X.K C m g ∧ FnK X.prog X.w X.K X.mg X.base (CXX X) k g n ks (spD M f)) : MethOkK X k m n ks (okM M tab) := ⟨fun C sp ⟨n0, f, h1, h2, h3⟩ => by
  obtain ⟨C', g, k1, k2, k3, k4⟩ := h n0 f h1
  rw [h2] at k1; cases k1
  subst h3
  exact ⟨g, k2, k3, k4⟩⟩
end
end
end TS

set_option maxRecDepth 100000
set_option maxHeartbeats 4000000
/-! TSc: own operators over two objects of one class; extend. -/
namespace TS
open PySem L2
noncomputable section
structure BinC (X : Cx) (nm : String) (k : Nat) (ok : Addr → Sp → Prop) : Prop where
  at_ : ∀ C sp, ok C sp → ∃ g, PySem.W.findIn X.K (.ref C) (PySem.dunder nm) = some (some (.ref g)) ∧ PySem.W.isFn X.K (.ref g) = true ∧ PySem.W.selfFirst X.K C = true ∧ FnR X.prog X.w X.K X.mg X.base (CXX X) k g sp
def tBinO (W : WX) (ok : Addr → Sp → Prop) (ta tb : TE) : TE := fun σ H Q => ta σ H fun x H1 => tb σ H1 fun y H2 => ∃ a b C dx fs dy gs sp, x = .ref a ∧ y = .ref b ∧ H2 a = some (.ins C dx fs) ∧ H2 b = some (.ins C dy gs) ∧ ok C sp ∧ sp [x, y] H2 (fun v H' => (∃ p, v = .ref p) ∧ Q v H') (WE W σ)
section
variable {X : Cx} {W : WX} {k : Nat} {a b : Expr} {ta tb : TE} {pos : Pos}
theorem pe_binO {op : Operator} {ok : Addr → Sp → Prop} (T : BinC X op.info.2 k ok) (hr : Room k X.A) (tk : Takes X W) (ha : PE X a ta) (hb : PE X b tb) : PE X (.BinOp a op b pos) (tBinO W ok ta tb) := by
  refine ⟨fun pins s σ H Q I h => ?_⟩
  refine wpAny_BinOp (binT ha hb I h fun v u s2 x y H2 I2 rx ry q => ?_)
  obtain ⟨p, q0, C, dx, fs, dy, gs, sp, rfl, rfl, ep, eq, hok, hsp⟩ := q
  obtain rfl : v = Value.ref p := rx
  obtain rfl : u = Value.ref q0 := ry
  obtain ⟨g, h1, h2, h3, F⟩ := T.at_ C sp hok
  obtain ⟨_, O1, _⟩ := ins_get I2.hok ep
  obtain ⟨od1, J1, _⟩ := O1.look
  obtain ⟨_, O2, _⟩ := ins_get I2.hok eq
  obtain ⟨od2, J2, _⟩ := O2.look
  obtain ⟨m, hF⟩ := I2.fr
  refine PySem.W.binop_K hF I2.ok.mod.kin J1 J2.type h3 h1 h2 (wpAny_call (codeAny_mono (run_fnRS F hr tk I2 (.cons (show RelV (V.ref p) (Value.ref p) from rfl) (.cons (show RelV (V.ref q0) (Value.ref q0) from rfl) .nil)) hsp) fun r s' hq => ?_))
  cases r with
  | error e => exact hq
  | ok fl =>
    cases fl with
    | ret w =>
      obtain ⟨z, H', I', rz, ⟨p', rfl⟩, q⟩ := hq
      obtain rfl : w = Value.ref p' := rz
      exact ⟨.ref p', H', I', rfl, q⟩
    | next => exact False.elim hq
    | brk => exact False.elim hq
    | cont => exact False.elim hq
end
def outO (r : FR) (δ : Sl) : Res R := match r with
  | .ok (.own o) _ => .ok (.own o) δ
  | .exc x _ => .exc x δ
  | _ => .bad
def fBinO (tab : Nat → Option Fm) (fa fb : FD) : FE := fun δ => (fa δ).bind fun x δ1 => (fb δ1).bind fun y δ2 => match x, y with
  | .obj n vs, .obj m ws => if n = m then (match tab n with
    | some f => outO (f none [.obj n vs, .obj m ws]) δ2
    | none => .bad) else .bad
  | _, _ => .bad
section
variable {M : Gm} {W : WX} {X : Cx} {a b e : Expr} {fa fb : FD}
theorem d_binO {tab : Nat → Option Fm} (mk : ∀ {ta tb : TE}, PE X a ta → PE X b tb → PE X e (tBinO W (okM M tab) ta tb)) (ha : DI M W X a fa) (hb : DI M W X b fb) : DE M W X e (fBinO tab fa fb) := by
  obtain ⟨ta, pa, ha⟩ := ha
  obtain ⟨tb, pb, hb⟩ := hb
  refine ⟨_, mk pa pb, fun c F H σ δ Q ok post => ha c F H σ δ _ ok (Post.bind post fun x δ1 v F1 H1 _ s1 ok1 r post => hb c F1 H1 σ δ1 _ ok1 (Post.bind post fun y δ2 u F2 H2 _ s2 ok2 ry post => ?_))⟩
  cases x with
  | obj n vs =>
    cases y with
    | obj m ws =>
      dsimp only at post
      split at post
      · rename_i hnm
        subst hnm
        split at post
        · rename_i f hf
          have r1 : rep M F2 (.obj n vs) v := rep_mono s2 _ _ r
          have r2 : rep M F2 (.obj n ws) u := ry
          have r1' := r1
          have r2' := r2
          unfold rep at r1' r2'
          obtain ⟨p, C, dx, fs, rfl, h1, h2, h3, h4⟩ := r1'
          obtain ⟨q, C', dy, gs, rfl, k1, k2, k3, k4⟩ := r2'
          rw [h1] at k1; cases k1
          refine ⟨p, q, C, dx, fs, dy, gs, spD M f, rfl, rfl, ok2.same _ _ h2, ok2.same _ _ k2, ⟨n, f, hf, h1, rfl⟩, ?_⟩
          refine ⟨F2, none, 0, _, [.obj n vs, .obj n ws], rfl, ok2.same, ok2.tb, reps_cons r1 (reps_cons r2 reps_nil), trivial, ?_⟩
          cases hq : f none [.obj n vs, .obj n ws] with
          | bad => rw [hq] at post; exact post
          | exc x io => rw [hq] at post; exact fun cls d F' H' st xa _ => post cls d F' H' st.grow (ok2.stp st) xa
          | ok r io =>
            rw [hq] at post
            cases r with
            | imm d => exact post.elim
            | brw o => exact post.elim
            | own o =>
              intro v F' H' st ra _
              have ra' := ra
              obtain ⟨p', rfl, _⟩ := ra'
              exact ⟨⟨p', rfl⟩, post _ F' H' st.grow (ok2.stp st) (ok2.resR st ra)⟩
        · exact post.elim
      · exact post.elim
    | _ => exact post.elim
  | _ => exact post.elim
end
/-! a, b, c = x, y, z -/
def sPar3 (i j l : Nat) (fa : FA) : FS := fun δ => (fa δ).bindS fun ds δ1 => match ds with
  | [a, b, c] => .nx (((δ1.set i (some (.imm a))).set j (some (.imm b))).set l (some (.imm c)))
  | _ => .bad
section
variable {M : Gm} {W : WX} {X : Cx} {fa : FA}
theorem ds_par3 {i j l : Nat} {x y z : Str} {a b c : Expr} {px py pz pt pos : Pos} {kt k2 pt2} (hc : X.calm = true) (hN : X.N.Nodup) (hi : X.N[i]? = some x) (hj : X.N[j]? = some y) (hl : X.N[l]? = some z) (hij : i ≠ j) (hil : i ≠ l) (hjl : j ≠ l)
    (hx : X.env.scope.names.lookup x = some .local) (hy : X.env.scope.names.lookup y = some .local) (hz : X.env.scope.names.lookup z = some .local) (ha : DA M W X [a, b, c] fa)
    (hw : swappedStores [.Tuple [.Name x px, .Name y py, .Name z pz] kt pt] (.Tuple [a, b, c] k2 pt2) X.env = pure (some [x, y, z]))
    (hs : swapsWithSole [.Tuple [.Name x px, .Name y py, .Name z pz] kt pt] (.Tuple [a, b, c] k2 pt2) pos.line X.env = pure false := by rfl) :
    DS M W X (.Assign [.Tuple [.Name x px, .Name y py, .Name z pz] kt pt] (.Tuple [a, b, c] k2 pt2) pos) (sPar3 i j l fa) := by
  obtain ⟨t, p, h⟩ := ha
  refine ⟨_, ps_par3 hc hN hi hj hl hij hil hjl hx hy hz p hw hs, fun c F H σ δ E ok post => h c F H σ δ _ ok (PostS.ofE post fun ds δ1 vs F1 H1 _ s1 ok1 rs post => ?_)⟩
  split at post
  · unfold ρA reps at rs
    obtain ⟨u, r, rfl, k1, rs⟩ := rs
    unfold reps at rs
    obtain ⟨v, r, rfl, k2, rs⟩ := rs
    unfold reps at rs
    obtain ⟨w, r, rfl, k3, rs⟩ := rs
    unfold reps at rs
    subst rs
    exact ⟨u, v, w, rfl, post F1 H1 _ (Same.refl _) (((ok1.setI i k1).setI j k2).setI l k3)⟩
  · exact post.elim
end
end
end TS

set_option maxRecDepth 100000
set_option maxHeartbeats 4000000
/-! TSd: calls that only look at a mutable object. -/
namespace TS
open PySem L2
noncomputable section
def flatR : R → Bool
  | .imm .non => true
  | .imm (.bl _) => true
  | .imm (.int _) => true
  | .imm (.str _) => true
  | _ => false
def outP (r : FR) (δ : Sl) : Res R := match r with
  | .ok r _ => if flatR r then .ok r δ else .bad
  | _ => .bad
/-- f(..) where some of the arguments are looked at alone -/
def fOwnP (f : Fm) (fa : FA) : FE := fun δ => (fa δ).bind fun ds δ1 => outP (f none ds) δ1
section
variable {M : Gm} {c : Cn M} {F H : Hp} {σ : St} {δ : Sl}
/-- the frozen part, and H at some places -/
def andAt (F H : Hp) (as : List Addr) : Hp := fun b => match F b with
  | some o => some o
  | none => if b ∈ as then str0 H b else none
theorem andAt_same (s : Same F H) (as : List Addr) : Same (andAt F H as) H := fun b o e => by
  unfold andAt at e
  split at e
  · rename_i o' e'; cases e; exact s b _ e'
  · split at e
    · exact (str0_nt e).1
    · cases e
theorem andAt_tb (t : Tb M F H) (as : List Addr) : Tb M (andAt F H as) H :=
  t.keep (fun _ _ e _ => e) (fun b o e n z => by
    unfold andAt
    rw [z]
    cases q : str0 H b with
    | none => simp
    | some u => rw [(str0_nt q).1] at e; cases e; exact absurd (str0_nt q).2 n) fun b ps e => by
    unfold andAt at e
    split at e
    · rename_i o' e'; cases e; exact t.nt b ps e'
    · split at e
      · have := (str0_nt e).2; cases this
      · cases e
theorem andAt_grow (as : List Addr) : Same F (andAt F H as) := fun b o e => by
  unfold andAt; rw [e]
theorem andAt_sub {as bs : List Addr} (h : ∀ a ∈ as, a ∈ bs) : Same (andAt F H as) (andAt F H bs) := fun b o e => by
  unfold andAt at e ⊢
  split at e
  · exact e
  · split at e
    · rename_i hb; rw [if_pos (h b hb)]; exact e
    · cases e
theorem prep_at (s : Same F H) {d : D} {v : V} (h : prep M F H d v) : ∃ as, rep M (andAt F H as) d v := by
  rcases h with h | ⟨o, a, rfl, rfl, h⟩
  · exact ⟨[], rep_mono (andAt_grow []) _ _ h⟩
  · refine ⟨[a], obAt_rep ?_⟩
    have ea : andAt F H [a] a = H a := by
      unfold andAt
      split
      · rename_i o' e; exact (s a _ e).symm
      · obtain ⟨u, h1, h2⟩ := obAt_nt h
        rw [if_pos (by simp), str0_of h1 h2, h1]
    exact obAt_mono (andAt_grow [a]) ea h
theorem preps_at (s : Same F H) : ∀ {ds : List D} {vs : List V}, Paired (prep M F H) ds vs → ∃ as, reps M (andAt F H as) ds vs
  | [], _, .nil => ⟨[], reps_nil⟩
  | _ :: _, _, .cons h1 h2 => by
    obtain ⟨as, r1⟩ := prep_at s h1
    obtain ⟨bs, r2⟩ := preps_at s h2
    exact ⟨as ++ bs, reps_cons (rep_mono (andAt_sub fun a ha => List.mem_append_left _ ha) _ _ r1) (reps_mono (andAt_sub fun a ha => List.mem_append_right _ ha) _ _ r2)⟩
theorem rep_flat {F' : Hp} {r : R} {v : V} (hf : flatR r = true) (h : resAt M H F' H r v) : repR c F H σ δ r v := by
  cases r with
  | own o => cases hf
  | brw o => cases hf
  | imm d =>
    cases d with
    | non => have z : rep M F' .non v := h; show rep M F .non v; unfold rep at z ⊢; exact z
    | bl b => have z : rep M F' (.bl b) v := h; show rep M F (.bl b) v; unfold rep at z ⊢; exact z
    | int b => have z : rep M F' (.int b) v := h; show rep M F (.int b) v; unfold rep at z ⊢; exact z
    | str b => have z : rep M F' (.str b) v := h; show rep M F (.str b) v; unfold rep at z ⊢; exact z
    | _ => cases hf
theorem own_ofP {W : WX} {f : Fm} {vs : List V} {ds : List D} {Q : VK} (ok : Ok c F H σ δ) (rs : Paired (prep M F H) ds vs) (post : Post c W F σ (ρR c σ) (outP (f none ds) δ) Q) : spD M f vs H Q (WE W σ) := by
  obtain ⟨as, rs'⟩ := preps_at ok.same rs
  refine ⟨andAt F H as, none, 0, vs, ds, rfl, andAt_same ok.same as, andAt_tb ok.tb as, rs', trivial, ?_⟩
  unfold outP at post
  cases q : f none ds with
  | bad => rw [q] at post; exact post
  | exc x io => rw [q] at post; exact post.elim
  | ok r io =>
    rw [q] at post
    dsimp only at post
    split at post
    · rename_i hf
      intro v F' H' st ra _
      have st2 : Stp M F H F H' none := ⟨Same.refl _, fun b _ _ _ e => e, st.kept, fun b o e => st.same b o (st.grow b o (andAt_grow as b o e)), st.tb.tab, ok.tb.fr, ok.tb.nt⟩
      refine post v F H' (Same.refl _) (ok.stp st2) (rep_flat hf (F' := F') ?_)
      cases r with
      | imm d => exact ra
      | own o => cases hf
      | brw o => cases hf
    · exact post.elim
end
section
variable {M : Gm} {W : WX} {X : Cx} {e : Expr} {es : List Expr} {fa : FA} {f : Fm}
theorem db_cons {f : FD} {g : FA} (h : DI M W X e f) (h2 : DB M W X es g) (hs : starEach (e :: es) X.env = (false, eval e X.env) :: starEach es X.env := by rfl) : DB M W X (e :: es) (aCons f g) := by
  obtain ⟨t, p, h⟩ := h
  obtain ⟨t', p', h2⟩ := h2
  refine ⟨_, pa_cons p p' hs, fun c F H σ δ Q ok post => h c F H σ δ _ ok (Post.bind post fun d δ1 v F1 H1 _ s1 ok1 r post => h2 c F1 H1 σ δ1 _ ok1 (Post.bind post fun ds δ2 vs F2 H2 _ s2 ok2 rs post => post.ok ok2 (.cons (.inl (rep_mono s2 _ _ r)) rs)))⟩
theorem d_ownP (mk : ∀ {t : TA}, PA X es t → PE X e (tOwn W (spD M f) t)) (ha : DB M W X es fa) : DE M W X e (fOwnP f fa) := by
  obtain ⟨t, p, h⟩ := ha
  exact ⟨_, mk p, fun c F H σ δ Q ok post => h c F H σ δ _ ok (Post.bind post fun ds δ1 vs F1 H1 _ s1 ok1 rs post => own_ofP ok1 rs post)⟩
end
end
end TS

set_option maxRecDepth 100000
set_option maxHeartbeats 4000000
/-! TSe: sorted, extend, three names in a comprehension, keywords in any order. -/
namespace TS
open PySem L2
noncomputable section
/-! sorted, of ints -/
def srt (ns : List Int) : List Int := ns.mergeSort fun a b => decide (a ≤ b)
theorem srt_perm (ns : List Int) : (srt ns).Perm ns := List.mergeSort_perm _ _
theorem srt_le (ns : List Int) : (srt ns).Pairwise (· ≤ ·) := by
  have := List.pairwise_mergeSort (le := fun a b : Int => decide (a ≤ b)) (fun a b c h1 h2 => by simp at h1 h2 ⊢; omega) (fun a b => by simp; omega) ns
  exact this.imp fun h => by simpa using h
theorem sorted_uniq : ∀ {a b : List Int}, a.Perm b → a.Pairwise (· ≤ ·) → b.Pairwise (· ≤ ·) → a = b
  | [], b, h, _, _ => (List.nil_perm.mp h).symm
  | x :: a, [], h, _, _ => by simpa using h.length_eq
  | x :: a, y :: b, h, ha, hb => by
    obtain ⟨ha1, ha2⟩ := List.pairwise_cons.mp ha
    obtain ⟨hb1, hb2⟩ := List.pairwise_cons.mp hb
    have h1 : x = y := by
      have m1 : x ∈ y :: b := h.mem_iff.mp (by simp)
      have m2 : y ∈ x :: a := h.mem_iff.mpr (by simp)
      rcases List.mem_cons.mp m1 with z | z
      · exact z
      · rcases List.mem_cons.mp m2 with w | w
        · exact w.symm
        · have := hb1 x z
          have := ha1 y w
          omega
    subst h1
    rw [sorted_uniq (List.perm_cons x |>.mp h) ha2 hb2]
def gSorted : List D → Option R
  | [.lst ds] => (match intsD ds with
    | some ns => some (.own (.l ((srt ns).map D.int)))
    | none => none)
  | _ => none
section
variable {M : Gm} {W : WX} {X : Cx} {e : Expr} {es : List Expr} {fa : FA} {p pos : Pos}
theorem cd_sorted : CallD M (rSortedI M.K) gSorted := by
  intro c F H σ δ xs ds z Q ok pxs e q
  unfold gSorted at e
  split at e
  · rename_i ds'
    split at e
    · rename_i ns hn
      cases e
      obtain ⟨x, rfl, px⟩ := p1 pxs
      obtain ⟨a, vs, rfl, h1, h2⟩ := prep_lst ok.same px
      have ev : vs = ns.map V.int := intsD_v h2 hn
      subst ev
      refine ⟨a, ns, rfl, SqL.of h1, fun ns' p hp hs hn' => ?_⟩
      have en : ns' = srt ns := sorted_uniq (hp.trans (srt_perm ns).symm) hs (srt_le ns)
      subst en
      refine q _ F _ (Same.refl _) (ok.alloc hn') (ok.made hn' ⟨_, upd_same, ?_⟩)
      exact reps_ints (srt ns)
    · cases e
  · cases e
theorem bt_sorted : bootBuiltins "sorted" = some (.builtin "sorted") := by decide +kernel
theorem b_sorted (hg : Gl X "sorted") (hm : X.mg "sorted" = none) (ha : DB M W X [e] fa) (hK : X.K = M.K := by rfl) (he : starEach (e :: []) X.env = (false, eval e X.env) :: starEach [] X.env := by rfl) (hpl : (backTo pos (starEach [] X.env)).any (·.1) = false := by rfl) : DE M W X (.Call (.Name "sorted" p) [e] [] pos) (fCal gSorted fa) := e_b (hK ▸ cr_sortedI) cd_sorted bt_sorted hg hm ha (by decide) (by decide) he hpl
/-! xs.extend(ys) -/
def mExtend : List D → List D → Option (D × List D)
  | ds, [.lst es] => if ds.length + es.length ≤ 16777216 then some (.non, ds ++ es) else none
  | _, _ => none
theorem md_extend : MutD M rExtend mExtend := by
  intro F H a vs xs ds as z ds' Q s hf hl hr ha e q
  unfold mExtend at e
  split at e
  · split at e
    · rename_i es hlen
      cases e
      obtain ⟨v, r, rfl, h2, h3⟩ := (show ∃ v r, xs = v :: r ∧ rep M F (.lst es) v ∧ reps M F [] r by unfold reps at ha; exact ha)
      unfold reps at h3
      subst h3
      unfold rep at h2
      obtain ⟨b, ws, rfl, k1, k2⟩ := h2
      exact ⟨a, b, vs, ws, rfl, rfl, hl, s _ _ k1, by rw [reps_length hr, reps_length k2, sizeLine_eq]; exact hlen, q _ _ rep_non' (reps_append hr k2)⟩
    · cases e
  · cases e
theorem m_extend {i : Nat} {o : Expr} {apos cpos : Pos} (ho : PE X o (tVar i)) (ha : DA M W X (e :: es) fa) (hb : attributeBase o "extend" X.env (eval o X.env) = eval o X.env := by rfl) (hfew : ((backTo cpos (starEach (e :: es) X.env)).all (fun x => !x.1) && (backToKw cpos (keywordEach [] X.env)).all (fun x => x.1.isSome) && decide ((e :: es).length + ([] : List Keyword).length + (if ([] : List Keyword).isEmpty then 0 else 1) < 30)) = true := by rfl) (hl : (apos.endLine == cpos.line) = true := by rfl)
    (he : starEach (e :: es) X.env = (false, eval e X.env) :: starEach es X.env := by rfl) (hpl : (backTo cpos (starEach es X.env)).any (·.1) = false := by rfl) : DI M W X (.Call (.Attribute o "extend" apos) (e :: es) [] cpos) (fMut i mExtend fa) :=
  d_mut (o := o) (fun h => pe_bm PySem.F.plainAttrs_list PySem.F.slot_list_extend PySem.F.type_list_extend mt_extend ho h hb hfew hl he hpl) md_extend ha
/-! three names -/
def stTrip (i j l : Nat) : D → Sl → Option Sl := fun d δ => match d with
  | .tup [a, b, c] => some (((δ.set i (some (.imm a))).set j (some (.imm b))).set l (some (.imm c)))
  | _ => none
theorem st_trip {i j l : Nat} (hij : i ≠ j) (hil : i ≠ l) (hjl : j ≠ l) : SetT M [i, j, l] (gTup M.K 3 (gCons (gName i) (gCons (gName j) (gCons (gName l) gNil)))) (stTrip i j l) := fun c F H σ δ δ' x d k ok r e hw q => by
  unfold stTrip at e
  split at e
  · cases e
    unfold rep at r
    obtain ⟨p, vs, rfl, h2, h3⟩ := r
    unfold reps at h3
    obtain ⟨v, r1, rfl, k1, h3⟩ := h3
    unfold reps at h3
    obtain ⟨w, r2, rfl, k2, h3⟩ := h3
    unfold reps at h3
    obtain ⟨u, r3, rfl, k3, h3⟩ := h3
    unfold reps at h3
    subst h3
    refine ⟨p, _, rfl, SqT.of (ok.same _ _ h2), rfl, v, _, rfl, w, _, rfl, u, _, rfl, rfl, q _ (((ok.setI i k1).setI j k2).setI l k3) ?_⟩
    show (((((σ.set i (some v)).set j (some w)).set l (some u)).set l none).set j none).set i none = σ
    have e1 : ((((σ.set i (some v)).set j (some w)).set l (some u)).set l none) = ((σ.set i (some v)).set j (some w)).set l none := List.set_set ..
    rw [e1, List.set_comm _ _ hjl, List.set_set, List.set_comm _ _ hil, List.set_comm _ _ (Ne.symm hij), List.set_set]
    have : ((σ.set l none).set j none).set i none = σ := hw
    rw [List.set_comm _ _ hij]
    exact this
  · cases e
end
/-! keywords in any order, all parameters given -/
def pick {α : Type} (n : Nat) (ix : List Nat) (d : α) (us ws : List α) : List α := us ++ ix.map fun j => ws.getD j d
def fmIx (n : Nat) (ix : List Nat) (fm : Fm) : Fm := fun io ds => match io with
  | none => fm none (ds.take n ++ ix.map fun j => (ds.drop n).getD j .non)
  | some _ => .bad
section
variable {M : Gm} {F H : Hp}
theorem vals_getD {zs : List V} {ws : List Value} (h : Vals zs ws) (j : Nat) : RelV (zs.getD j .non) (ws.getD j .none) := by
  induction h generalizing j with
  | nil => exact rfl
  | cons h1 h2 ih =>
    cases j with
    | zero => exact h1
    | succ j => exact ih j
theorem vals_ix {zs : List V} {ws : List Value} (h : Vals zs ws) : ∀ ix : List Nat, Vals (ix.map fun j => zs.getD j .non) (ix.map fun j => ws.getD j .none)
  | [] => .nil
  | j :: ix => .cons (vals_getD h j) (vals_ix h ix)
theorem reps_getD : ∀ {ds : List D} {vs : List V}, reps M F ds vs → ∀ j : Nat, rep M F (ds.getD j .non) (vs.getD j .non)
  | [], vs, h, j => by unfold reps at h; subst h; simp [rep]
  | d :: ds, vs, h, j => by
    unfold reps at h
    obtain ⟨v, r, rfl, h1, h2⟩ := h
    cases j with
    | zero => exact h1
    | succ j => exact reps_getD h2 j
theorem reps_ix {ds : List D} {vs : List V} (h : reps M F ds vs) : ∀ ix : List Nat, reps M F (ix.map fun j => ds.getD j .non) (ix.map fun j => vs.getD j .non)
  | [] => reps_nil
  | j :: ix => reps_cons (reps_getD h j) (reps_ix h ix)
end
section
variable {M : Gm} {P : Program} {w : World} {mg : Str → Option Value} {base : Heap} {k n : Nat} {ks ps : List Str} {f : Addr} {fm : Fm} {fd : FuncData} {ix : List Nat}
theorem kb_ix {K : PySem.W.Frag} {x qual : Str} {params : Arguments} {body : List Stmt} {scope : Scope} {dvs : List V} {kws : List (Str × V)} (F : FunD K x qual params body scope dvs kws f fd)
    (h : ∀ (dV kV doc pm : Value) (an : Option Addr) (cdv ct : Value) (us ws : List Value), us.length = n → ws.length = ks.length → bindArgs (PySem.W.fnOf x qual params body scope dV kV doc pm an cdv ct) ⟨us, ks.zip ws⟩ = pure (ps.zip (pick n ix .none us ws))) : KBn K fd ps n ks (pick n ix .none) (pick n ix .non) := by
  obtain ⟨oc, od, dV, kV, doc, pm, an, cdv, ct, osl, rfl, lk, hcd, hD, hK⟩ := F.ex
  exact ⟨fun s us ws _ l1 l2 => .of_eq (h dV kV doc pm an cdv ct us ws l1 l2), fun r rz => r.append (vals_ix rz ix)⟩
theorem kb_ixD {K : PySem.W.Frag} {x qual : Str} {params : Arguments} {body : List Stmt} {scope : Scope} {dvs : List V} {kws : List (Str × V)} (F : FunD K x qual params body scope dvs kws f fd) (hd : dvs ≠ [])
    (h : ∀ (T : Addr) (kV doc pm : Value) (an : Option Addr) (cdv ct : Value) (us its ws : List Value), us.length = n → its.length = dvs.length → ws.length = ks.length →
      ∃ k, bindArgs (PySem.W.fnOf x qual params body scope (.ref T) kV doc pm an cdv ct) ⟨us, ks.zip ws⟩ = seqItems? (.ref T) >>= k ∧ k (some its.toArray) = pure (ps.zip (pick n ix .none us ws))) : KBn K fd ps n ks (pick n ix .none) (pick n ix .non) := by
  obtain ⟨oc, od, dV, kV, doc, pm, an, cdv, ct, osl, rfl, lk, hcd, hD, hK⟩ := F.ex
  rcases hD with ⟨e, _⟩ | ⟨_, T, o, its, m, rfl, lT, oT, rT⟩
  · exact absurd e hd
  · refine ⟨fun s us ws kin l1 l2 => ?_, fun r rz => r.append (vals_ix rz ix)⟩
    obtain ⟨k, e1, e2⟩ := h T kV doc pm an cdv ct us its ws l1 rT.length.symm l2
    refine BindsTo.of_looks fun M => ?_
    rw [e1]
    exact looks_items kin lT oT (.of_pure e2)
theorem fnK_ix (F : FnOk P w M.K mg base (L2.CX P w) k f fd ps (spD M fm)) (hb : KBn M.K fd ps n ks (pick n ix .none) (pick n ix .non)) : FnK P w M.K mg base (L2.CX P w) k f n ks (spD M (fmIx n ix fm)) :=
  FnOk.kw F hb fun vs zs H Q E l1 l2 h => by
    obtain ⟨F0, io, a, ws, ds, e, s, tb, rs, ia, h⟩ := h
    cases io with
    | none =>
      have e : vs ++ zs = ws := e
      subst e
      have hl := reps_length rs
      have r1 : reps M F0 (ds.take n) vs := by
        have := reps_take n rs
        rw [List.take_left' l1] at this
        exact this
      have r2 : reps M F0 (ds.drop n) zs := by
        have := reps_drop n rs
        rw [List.drop_left' l1] at this
        exact this
      exact ⟨F0, none, a, _, _, rfl, s, tb, reps_append r1 (reps_ix r2 ix), ia, h⟩
    | some o => exact h.elim
end
end
end TS

set_option maxRecDepth 100000
set_option maxHeartbeats 4000000
/-! TSf: ranges of ints of any size. -/
namespace TS
open PySem PySem.Spec L2
noncomputable section
theorem turn_long {P : Program} {w : World} {K : PySem.W.Frag} {tg : Expr} (it : Addr) (lo : Int) (n : Nat) : Turn P w K tg (Itr lo n) [it] it (fun i h => IsLongIter h it (lo + (i : Nat) * 1) ((n : Int) - (i : Nat)) 1) where
  mem := by simp
  obj := fun i h st b hb => by
    have e : b = it := by simpa using hb
    subst e
    exact ⟨_, st, fun v z => by
      have z' : Data.fields _ = Data.cell v := z
      cases z'⟩
  keep := fun i h h' st k => k it (by simp) _ st
  item := by
    intro X hP hw hK hc i pins s σ H E I hf st hg
    subst hP hw hK
    obtain ⟨f0, f1, f2, f3, f4, f5⟩ := hf it (by simp)
    have W := PySem.Walks.longrange (prog := X.prog) (w := X.w) (I.ok.hd hc) it lo 1 n
    refine W.item i s _ _ hg st fun v h' tk hv st' kk => ?_
    obtain ⟨t, rfl⟩ := hv
    have I1 : Inv X pins σ H { s with heap := h', toks := tk } := I.turned (fun b o hb e => kk b o (by simpa using hb) e) f0 f1 f3 f4 f5
    refine ⟨_, rfl, go_of (s := { s with heap := h', toks := tk }) (n := "longrange_iterator") st' rfl rfl (by decide) ⟨.int (lo + i), H, I1, ⟨t, ?_⟩, ⟨rfl, rfl⟩, st', fun b hb => (hf b hb).1⟩⟩
    rw [Int.mul_one]
  done := by
    intro X hP hw hK hc i pins s σ H E I hf st hg
    subst hP hw hK
    obtain ⟨f0, f1, f2, f3, f4, f5⟩ := hf it (by simp)
    exact wpAny_pyNext_long_end (I.ok.hd hc) st (by have : n ≤ i := hg; omega) fun h' eb => ⟨rfl, I.turned (t' := s.toks) (fun b o hb e => eb b o hb e) f0 f1 f3 f4 f5⟩
  self := fun _ _ _ _ _ st h => wpAny_pyIter_longiter st h
section
variable {X : Cx} {tg : Expr}
theorem range_itW {pins : List (Addr × Obj)} {σ : St} {H : Hp} {s : Shared} {R : It → Hp → Prop} {E : Value → Shared → Prop} {lo hi : Int} {t u v : Tok} {tk : Nat} (I : Inv X pins σ H s)
    (q : R (Itr lo (hi - lo).toNat) H) : wpAny (model X.prog X.w) X.A (pyIter (.ref s.heap.objs.size)) (PIE X pins σ tg R) E { s with heap := s.heap.push { cls := .type "range", data := .fields #[.int lo t, .int hi u, .int 1 v] }, toks := tk } := by
  have I1 : Inv X pins σ H { s with heap := s.heap.push { cls := .type "range", data := .fields #[.int lo t, .int hi u, .int 1 v] }, toks := tk } := I.kept fun b o e => Heap.get?_push_of_some _ e
  have e1 : lo + ((0 : Nat) : Int) * 1 = lo := by simp
  have e2 : (((hi - lo).toNat : Nat) : Int) - ((0 : Nat) : Int) = Builtin.Range.rangeSize lo hi 1 := by rw [rangeSize_one]; split <;> omega
  cases hs : Builtin.Range.small lo hi 1 with
  | true =>
    refine wpAny_pyIter_range (IsRange.new ..) hs ?_
    refine ⟨(s.heap.push { cls := .type "range", data := .fields #[.int lo t, .int hi u, .int 1 v] }).objs.size, [(s.heap.push { cls := .type "range", data := .fields #[.int lo t, .int hi u, .int 1 v] }).objs.size], _, _, H, rfl,
      I1.kept (t' := tk) fun b o e => Heap.get?_push_of_some _ e, turn_range _ lo (hi - lo).toNat, ?_, fun b hb => ?_, q⟩
    · show IsRangeIter _ _ (lo + ((0 : Nat) : Int) * 1) ((((hi - lo).toNat : Nat) : Int) - ((0 : Nat) : Int)) 1
      rw [e1, e2]
      exact Heap.get?_push_size _ rfl
    · have e : b = (s.heap.push { cls := .type "range", data := .fields #[.int lo t, .int hi u, .int 1 v] }).objs.size := by simpa using hb
      subst e
      exact I1.fpOk (Nat.le_refl _) (I1.hok.fresh (Nat.le_refl _))
  | false =>
    refine wpAny_pyIter_longrange (IsRange.new ..) hs ?_
    refine ⟨(s.heap.push { cls := .type "range", data := .fields #[.int lo t, .int hi u, .int 1 v] }).objs.size, [(s.heap.push { cls := .type "range", data := .fields #[.int lo t, .int hi u, .int 1 v] }).objs.size], _, _, H, rfl,
      I1.kept (t' := tk) fun b o e => Heap.get?_push_of_some _ e, turn_long _ lo (hi - lo).toNat, ?_, fun b hb => ?_, q⟩
    · show IsLongIter _ _ (lo + ((0 : Nat) : Int) * 1) ((((hi - lo).toNat : Nat) : Int) - ((0 : Nat) : Int)) 1
      rw [e1, e2]
      exact Heap.get?_push_size _ rfl
    · have e : b = (s.heap.push { cls := .type "range", data := .fields #[.int lo t, .int hi u, .int 1 v] }).objs.size := by simpa using hb
      subst e
      exact I1.fpOk (Nat.le_refl _) (I1.hok.fresh (Nat.le_refl _))
def iRng2W (ta : TA) : TI := fun σ H R => ta σ H fun vs H1 => ∃ i j : Int, vs = [.int i, .int j] ∧ R (Itr i (j - i).toNat) H1
theorem pi_range2W {a b : Expr} {ta : TA} {p pos : Pos} (hg : Gl X "range") (hm : X.mg "range" = none) (ha : PA X [a, b] ta) (hs : starEach [a, b] X.env = [(false, eval a X.env), (false, eval b X.env)] := by rfl) (hs2 : starEach [b] X.env = [(false, eval b X.env)] := by rfl) :
    PI X tg (.Call (.Name "range" p) [a, b] [] pos) (iRng2W ta) := by
  refine ⟨fun pins s σ H R I h => ?_⟩
  refine PyProof.Rows.Call_ (ld_blt I hg hm PyProof.Rows.boot_range (PyProof.Rows.callWith_type1 (thn (ha.run pos pins s σ H _ I h) fun us s1 ⟨vs, H1, I1, r1, q1⟩ => ?_) (by rw [hs, hs2]) (by rw [hs2]; rfl)))
  obtain ⟨i, j, e, q⟩ := q1
  subst e
  cases r1 with
  | cons r rr =>
    cases rr with
    | cons r' rr =>
      cases rr
      obtain ⟨t, rfl⟩ := r
      obtain ⟨t', rfl⟩ := r'
      exact call_range_2 (range_itW I1 q)
end
section
variable {M : Gm} {W : WX} {X : Cx} {tg e : Expr}
def itRg2W (f g : FD) : FA := fun δ => (f δ).bind fun d δ => (g δ).bind fun d' δ => match d, d' with
  | .int m, .int n => .ok (rgD m n) δ
  | _, _ => .bad
theorem dit_rg2W {a b : Expr} {f g : FD} {p pos : Pos} (hg : Gl X "range") (hm : X.mg "range" = none) (h : DI M W X a f) (h' : DI M W X b g) (hs : starEach [a, b] X.env = [(false, eval a X.env), (false, eval b X.env)] := by rfl) (hs2 : starEach [b] X.env = [(false, eval b X.env)] := by rfl)
    (hs3 : starEach (a :: [b]) X.env = (false, eval a X.env) :: starEach [b] X.env := by rfl) (hs4 : starEach (b :: []) X.env = (false, eval b X.env) :: starEach [] X.env := by rfl) : DIt M W X tg (.Call (.Name "range" p) [a, b] [] pos) (itRg2W f g) := by
  obtain ⟨t, pp, h⟩ := h
  obtain ⟨t', pp', h'⟩ := h'
  refine ⟨_, pi_range2W hg hm (pa_cons pp (pa_cons pp' pa_nil hs4) hs3) hs hs2, fun c F H σ δ Q ok post => h c F H σ δ _ ok (Post.bind post fun d δ1 v F1 H1 _ s1 ok1 r post => h' c F1 H1 σ δ1 _ ok1 (Post.bind post fun d' δ2 v' F2 H2 _ s2 ok2 r' post => ?_))⟩
  obtain ⟨m, rfl⟩ : ∃ m, d = .int m := by cases d <;> first | exact ⟨_, rfl⟩ | exact post.elim
  obtain ⟨n, rfl⟩ : ∃ n, d' = .int n := by cases d' <;> first | exact ⟨_, rfl⟩ | exact post.elim
  simp only at post
  unfold ρD rep at r r'
  subst r
  subst r'
  exact ⟨m, n, rfl, post.ok ok2 (walks_range (M := M) (F := F2) m (n - m).toNat)⟩
end
end
end TS

set_option maxRecDepth 100000
set_option maxHeartbeats 4000000
/-! TSg: enumerate over a tuple; loops over a list or a tuple. -/
namespace TS
open PySem L2 PyProof.Rows
open AutoSeq1 (wpAny_loadPart')
noncomputable section
theorem enumT_new (tu : Addr) (its : Array Value) (cn : Nat) (dd : Option Addr) (ss : Array (Option Value)) :
    Meets (Builtin.«enumerate.__new__» ⟨[.type "enumerate", .ref tu], []⟩) (fun _ Rr sh => sh.heap.get? tu = some { cls := .type "tuple", dict := dd, data := .seq its cn, slots := ss } ∧
      Rr (.ok (.ret (.ref (sh.heap.push { cls := .type "tuple_iterator", data := .fields #[.ref tu, .int 0 0] }).objs.size)))
        { sh with heap := (sh.heap.push { cls := .type "tuple_iterator", data := .fields #[.ref tu, .int 0 0] }).push { cls := .type "enumerate", data := .fields #[.none, .bool false, .ref sh.heap.objs.size, rawInt 0, .none, .none] } }) :=
  .of_wp fun prog w A Rr sh z => by
    obtain ⟨hp, g, d, tk, os⟩ := sh
    obtain ⟨hl, z⟩ := z
    have sub := sub_enumerate
    have hL : Heap.IsTuple (Shared.heap ⟨hp, g, d, tk, os⟩) tu its := ⟨_, hl, rfl, _, rfl⟩
    wp_walk using wpAny_loadPart' hl
    refine wpAny_stack_any fun st => wpAny_pure ?_
    split
    · rename_i c _ _ _ _ _
      cases (c == Value.type "enumerate") <;> (wp_walk using wpAny_loadPart' hl, wpAny_pyIter_tuple hL; exact ⟨_, rfl, z⟩)
    · wp_walk using wpAny_loadPart' hl, wpAny_pyIter_tuple hL
      exact ⟨_, rfl, z⟩
theorem call_enumT {P : Program} {w : World} {A : Around} {Ex : Value → Shared → Prop} {sh : Shared} {tu : Addr} {its : Array Value} {Q : Value → Shared → Prop} (hL : sh.heap.IsTuple tu its)
    (z : ∀ h2, IsEnum h2 (sh.heap.objs.size + 1) sh.heap.objs.size 0 .none → h2.IsTupleIter sh.heap.objs.size tu 0 → h2.objs.size = sh.heap.objs.size + 2 →
      (∀ b o, sh.heap.get? b = some o → h2.get? b = some o) → Q (.ref (sh.heap.objs.size + 1)) { sh with heap := h2 }) :
    wpAny (model P w) A (call (.type "enumerate") [.ref tu]) Q Ex sh := by
  obtain ⟨⟨cc, dd, dt, ss⟩, hl, hc, n, hd⟩ := hL
  replace hc : cc = .type "tuple" := hc
  replace hd : dt = .seq its n := hd
  subst hc hd
  refine callType_new F.called_enumerate (by decide) (F.typeCall_enumerate_1 _) (F.newCall_enumerate_1 _) (fun ob => F.args_object_init_2 ob _) F.entry_enumerate_new (enumT_new tu its n dd ss) ⟨hl, ?_⟩
  have hz : (sh.heap.push { cls := .type "tuple_iterator", data := .fields #[.ref tu, .int 0 0] }).objs.size = sh.heap.objs.size + 1 := Heap.size_push ..
  show _ ∧ _
  rw [hz]
  have he : IsEnum ((sh.heap.push { cls := .type "tuple_iterator", data := .fields #[.ref tu, .int 0 0] }).push
      { cls := .type "enumerate", data := .fields #[.none, .bool false, .ref sh.heap.objs.size, rawInt 0, .none, .none] }) (sh.heap.objs.size + 1) sh.heap.objs.size 0 .none := by
    have q := Heap.get?_push_size (sh.heap.push { cls := .type "tuple_iterator", data := .fields #[.ref tu, .int 0 0] })
      (o := { cls := .type "enumerate", data := .fields #[.none, .bool false, .ref sh.heap.objs.size, rawInt 0, .none, .none] }) rfl
    rw [hz] at q
    exact q
  exact ⟨⟨_, he, rfl⟩, z _ he ⟨_, Heap.get?_push_of_some _ (Heap.get?_push_size _ rfl), rfl, rfl⟩ (by rw [Heap.size_push, hz]) fun b o q => Heap.get?_push_of_some _ (Heap.get?_push_of_some _ q)⟩
/-- the tuple at a, each item in a new pair -/
def IteT (K : PySem.W.Frag) (a : Addr) : It :=
  ⟨fun i H => ∃ (xs : List V) (x : V), SqT K H a xs ∧ xs[i]? = some x, fun i H v H' => ∃ T x, v = .ref T ∧ H T = none ∧ H' = upd H T (.tup [.int (i : Nat), x]) ∧ ∀ xs, SqT K H a xs → xs[i]? = some x, fun i H => ∃ xs : List V, SqT K H a xs ∧ xs.length ≤ i⟩
theorem turn_enumT {P : Program} {w : World} {K : PySem.W.Frag} {elts : List Expr} {kk : Nat} {tpos : Pos} (a e it : Addr) :
    Turn P w K (.Tuple elts kk tpos) (IteT K a) [e, it] e (fun i h => (∃ old, IsEnum h e it ((i : Nat) : Int) old) ∧ h.IsTupleIter it a i ∧ e ≠ it) where
  mem := by simp
  obj := fun i h st b hb => by
    obtain ⟨⟨old, he⟩, ⟨o, ho, hc, hd⟩, _⟩ := st
    rcases (show b = e ∨ b = it by simpa using hb) with z | z
    · subst z; exact ⟨_, he, fun v q => nomatch q⟩
    · subst z; exact ⟨o, ho, fun v q => by rw [hd] at q; cases q⟩
  keep := fun i h h' st k => let ⟨⟨old, he⟩, hi, hn⟩ := st; ⟨⟨old, k e (by simp) _ he⟩, hi.at (fun o q => k it (by simp) o q), hn⟩
  item := by
    intro X hP hw hK hc i pins s σ H E I hf st hg
    subst hP hw hK
    obtain ⟨⟨old, he⟩, hit, hn⟩ := st
    obtain ⟨xs, x, hq, hx⟩ := hg
    obtain ⟨its, rv, p, hz⟩ := I.tuple hq
    have p' : s.heap.IsTuple a its.toArray := p
    have ae : a ≠ e := fun z => by
      obtain ⟨o, ho, hcl, _⟩ := p'
      rw [z] at ho
      have he' := Option.some.inj (he.symm.trans ho)
      rw [← he'] at hcl
      exact (show ¬ (Value.type "enumerate" = Value.type "tuple") by decide) hcl
    have ai : a ≠ it := fun z => by
      obtain ⟨o, ho, hcl, _⟩ := p'
      obtain ⟨o2, ho2, hcl2, _⟩ := hit
      rw [z, ho2] at ho
      cases ho
      rw [hcl2] at hcl
      exact absurd hcl (by decide)
    have hil : i < its.toArray.size := by
      have := rv.length
      have := (List.getElem?_eq_some_iff.mp hx).1
      simp; omega
    have hel : e < s.heap.objs.size := Heap.lt_size he
    have hitl : it < s.heap.objs.size := by obtain ⟨_, q, _⟩ := hit; exact Heap.lt_size q
    refine wpAny_pyNext_enum_itemD (Draws.tuple (show X.A.in1.handled = none from I.ok.hd hc) it a ai its.toArray) he ⟨hit, p'⟩ hil hn (by simp [hn, Ne.symm ae]) fun u h2 tk hu ho st2 hT hsz hk => ?_
    obtain ⟨hit2, hp2⟩ := st2
    obtain ⟨u', hu', ru⟩ := rv.get hx
    have eu : u' = u := by
      have : its.toArray[i]? = some u' := by simpa using hu'
      rw [this] at hu
      exact Option.some.inj hu
    subst eu
    refine ⟨_, rfl, wpAny_letOwnedTupleGo_enum (s := { s with heap := h2, toks := tk + 1 }) ho fun h3 he3 sb => ?_⟩
    have hT3 : h3.get? s.heap.objs.size = some { cls := .type "tuple", data := .seq #[.int i tk, u'] } := (sb.2 _ (Nat.ne_of_gt hel)).trans hT
    have nw : ObjOk X.prog X.w (upd H s.heap.objs.size (.tup [.int (i : Nat), x])) h3 s.heap.objs.size (.tup [.int (i : Nat), x]) :=
      ⟨by show 2 ≤ sizeLine; decide, [.int i tk, u'], .cons ⟨_, rfl⟩ (.cons ru .nil), ⟨_, hT3, rfl, _, rfl⟩⟩
    have I2 : Inv X pins σ (upd H s.heap.objs.size (.tup [.int (i : Nat), x])) { s with heap := h3, toks := tk + 1 } :=
      I.turnedNew (ch := [e, it]) (fun b ob hb q => (sb.2 b (fun z => hb (by simp [z]))).trans (hk b ob (fun z => hb (by simp [z])) (fun z => hb (by simp [z])) q)) hf (Nat.le_refl _) nw
    refine ⟨.ref s.heap.objs.size, _, I2, rfl, ⟨_, x, rfl, I.hok.fresh (Nat.le_refl _), rfl, fun ys hy => by rw [I.tuple_inj hy hq]; exact hx⟩, ⟨⟨u', ?_⟩, hit2.at fun o q => (sb.2 it (Ne.symm hn)).trans q, hn⟩, fun b hb => ?_⟩
    · rw [show ((i + 1 : Nat) : Int) = (i : Int) + 1 by omega]; exact he3
    · have hb' : b < s.heap.objs.size := by
        rcases (show b = e ∨ b = it by simpa using hb) with z | z
        · rw [z]; exact hel
        · rw [z]; exact hitl
      rw [upd_ne (Nat.ne_of_lt hb')]
      exact (hf b hb).1
  done := by
    intro X hP hw hK hc i pins s σ H E I hf st hg
    subst hP hw hK
    obtain ⟨⟨old, he⟩, hit, hn⟩ := st
    obtain ⟨xs, hq, hx⟩ := hg
    obtain ⟨its, rv, p, hz⟩ := I.tuple hq
    have p' : s.heap.IsTuple a its.toArray := p
    obtain ⟨f0, f1, f2, f3, f4, f5⟩ := hf it (by simp)
    have hl := rv.length
    have hne : its.toArray[i]? = none := by simp; omega
    have D : Draws X.prog X.w X.A.in1 it [it, a] i (fun _ _ => True) (fun j h => j = i ∧ h.IsTupleIter it a i ∧ h.IsTuple a its.toArray) :=
      ⟨fun _ _ st => let ⟨_, ⟨o, ho, _⟩, _⟩ := st; ⟨o, ho⟩, fun _ _ _ st hk => ⟨st.1, st.2.1.at fun o q => hk it (by simp) o q, st.2.2.at fun o q => hk a (by simp) o q⟩, fun j _ _ _ hj st _ => absurd st.1 (Nat.ne_of_lt hj),
        fun _ _ _ st hE => wpAny_nextOf_tuple_end (show X.A.in1.handled = none from I.ok.hd hc) st.2.1 st.2.2 hne hE⟩
    exact wpAny_pyNext_enum_endD D he ⟨rfl, hit, p'⟩ fun h2 eb => ⟨rfl, I.turned (t' := s.toks) (fun b o hb q => eb b o hb q) f0 f1 f3 f4 f5⟩
  self := fun A i s Q E st h => let ⟨⟨_, he⟩, _⟩ := st; wpAny_pyIter_enum he h
/-- enumerate over a list or a tuple -/
def iEnumLT (K : PySem.W.Frag) (ta : TA) : TI := fun σ H Rr => ta σ H fun vs H1 => (∃ a xs, vs = [.ref a] ∧ SqL K H1 a xs ∧ Rr (Ite K a) H1) ∨ (∃ a xs, vs = [.ref a] ∧ SqT K H1 a xs ∧ Rr (IteT K a) H1)
theorem pi_enumLT {X : Cx} {e : Expr} {ta : TA} {p pos tpos : Pos} {elts : List Expr} {kk : Nat} (hg : Gl X "enumerate") (hm : X.mg "enumerate" = none) (ha : PA X [e] ta) (hs : starEach [e] X.env = [(false, eval e X.env)] := by rfl) :
    PI X (.Tuple elts kk tpos) (.Call (.Name "enumerate" p) [e] [] pos) (iEnumLT X.K ta) := by
  refine ⟨fun pins s σ H Rr I h => ?_⟩
  refine Call_ (ld_blt I hg hm boot_enumerate (PyProof.Rows.callWith_type1 (thn (ha.run pos pins s σ H _ I h) fun us s1 ⟨vs, H1, I1, r1, q1⟩ => ?_) hs rfl))
  rcases q1 with ⟨a, xs, ex, hq, q⟩ | ⟨a, xs, ex, hq, q⟩ <;> subst ex <;> obtain _ | ⟨r, rr⟩ := r1 <;> cases rr <;> cases r
  · obtain ⟨its, rv, p', hz⟩ := I1.list hq
    refine call_enumerate_list p'.isList fun h' he hit hsz hk => wpAny_pyIter_enum he ?_
    have I2 : Inv X pins σ H1 { s1 with heap := h' } := I1.kept (t' := s1.toks) hk
    refine ⟨s1.heap.objs.size + 1, [s1.heap.objs.size + 1, s1.heap.objs.size], _, _, H1, rfl, I2, turn_enum a (s1.heap.objs.size + 1) s1.heap.objs.size, ⟨⟨.none, he⟩, hit, Nat.succ_ne_self _⟩, fun b hb => ?_, q⟩
    have hle : s1.heap.objs.size ≤ b := by
      rcases (show b = s1.heap.objs.size + 1 ∨ b = s1.heap.objs.size by simpa using hb) with z | z
      · rw [z]; exact Nat.le_add_right _ _
      · rw [z]; exact Nat.le_refl _
    exact I1.fpOk hle (I1.hok.fresh hle)
  · obtain ⟨its, rv, p', hz⟩ := I1.tuple hq
    refine call_enumT (show s1.heap.IsTuple a its.toArray from p') fun h' he hit hsz hk => wpAny_pyIter_enum he ?_
    have I2 : Inv X pins σ H1 { s1 with heap := h' } := I1.kept (t' := s1.toks) hk
    refine ⟨s1.heap.objs.size + 1, [s1.heap.objs.size + 1, s1.heap.objs.size], _, _, H1, rfl, I2, turn_enumT a (s1.heap.objs.size + 1) s1.heap.objs.size, ⟨⟨.none, he⟩, hit, Nat.succ_ne_self _⟩, fun b hb => ?_, q⟩
    have hle : s1.heap.objs.size ≤ b := by
      rcases (show b = s1.heap.objs.size + 1 ∨ b = s1.heap.objs.size by simpa using hb) with z | z
      · rw [z]; exact Nat.le_add_right _ _
      · rw [z]; exact Nat.le_refl _
    exact I1.fpOk hle (I1.hok.fresh hle)
section
variable {M : Gm} {c : Cn M} {W : WX} {X : Cx} {tg e : Expr} {F F1 H H1 : Hp} {σ : L2.St} {δ : Sl}
theorem walks_enumT {a : Addr} {vs : List V} {ds : List D} (hK : X.K = M.K) (hF : SqT M.K F a vs) (r : reps M F ds vs) : Walks M (IteT X.K a) F (enumD 0 ds) := fun i H s => by
  have hq : SqT X.K H a vs := by rw [hK]; exact Same.seqT s hF
  rw [enumD_get]
  refine ⟨fun d hd => ?_, fun hn => ⟨vs, hq, ?_⟩⟩
  · obtain ⟨d0, hd0, rfl⟩ := Option.map_eq_some_iff.mp hd
    obtain ⟨v, e1, e2⟩ := reps_get r hd0
    refine ⟨⟨vs, v, hq, e1⟩, fun x H' y => .inr ?_⟩
    obtain ⟨T, x0, k1, k2, k3, k4⟩ := y
    have := k4 vs hq
    rw [e1] at this; cases this
    exact ⟨T, _, _, k2, k1, k3, rfl, reps_cons (by rw [Nat.zero_add]; exact rep_int' _) (reps_cons e2 reps_nil)⟩
  · rw [reps_length r]
    exact List.getElem?_eq_none_iff.mp (by simpa using hn)
def itEnumLT (f : FD) : FA := fun δ => (f δ).bind fun d δ => match d with
  | .lst ds => .ok (enumD 0 ds) δ
  | .tup ds => .ok (enumD 0 ds) δ
  | _ => .bad
theorem dit_enumLT {a : Expr} {f : FD} {p pos tpos : Pos} {elts : List Expr} {kk : Nat} (hg : Gl X "enumerate") (hm : X.mg "enumerate" = none) (h : DI M W X a f) (hK : X.K = M.K := by rfl) (hs : starEach [a] X.env = [(false, eval a X.env)] := by rfl) (hs2 : starEach (a :: []) X.env = (false, eval a X.env) :: starEach [] X.env := by rfl) :
    DIt M W X (.Tuple elts kk tpos) (.Call (.Name "enumerate" p) [a] [] pos) (itEnumLT f) := by
  obtain ⟨t, pp, h⟩ := h
  refine ⟨_, pi_enumLT hg hm (pa_cons pp pa_nil hs2) hs, fun c F H σ δ Q ok post => h c F H σ δ _ ok (Post.bind post fun d δ1 v F1 H1 _ s1 ok1 r post => ?_)⟩
  split at post
  · unfold ρD rep at r
    obtain ⟨a, vs, rfl, h2, h3⟩ := r
    exact .inl ⟨a, vs, rfl, SqL.of (ok1.same _ _ h2), post.ok ok1 (walks_enum hK h2 h3)⟩
  · unfold ρD rep at r
    obtain ⟨a, vs, rfl, h2, h3⟩ := r
    exact .inr ⟨a, vs, rfl, by rw [hK]; exact SqT.of (ok1.same _ _ h2), post.ok ok1 (walks_enumT hK (SqT.of h2) h3)⟩
  · exact post.elim
/-! a loop over a list or a tuple -/
def iLT (K : PySem.W.Frag) (tl : TE) : TI := fun σ H Rr => tl σ H fun x H1 => (∃ a, x = .ref a ∧ (∃ xs, SqL K H1 a xs) ∧ Rr (Itl K a) H1) ∨ (∃ a, x = .ref a ∧ (∃ xs, SqT K H1 a xs) ∧ Rr (Itt K a) H1)
theorem pi_LT {l : Expr} {tl : TE} (hl : PE X l tl) : PI X tg l (iLT X.K tl) := by
  refine ⟨fun pins s σ H Rr I h => ?_⟩
  refine thn (hl.run pins s σ H _ I h) fun v s1 ⟨x, H1, I1, r1, q1⟩ => ?_
  rcases q1 with ⟨a, ex, ⟨xs, hq⟩, q⟩ | ⟨a, ex, ⟨xs, hq⟩, q⟩ <;> subst ex <;> cases r1
  · obtain ⟨its, rv, p, hz⟩ := I1.list hq
    refine wpAny_pyIter_list p.isList ⟨s1.heap.objs.size, [s1.heap.objs.size], _, _, H1, rfl, I1.kept (t' := s1.toks) fun b o z => Heap.get?_push_of_some _ z, turn_list a _, ⟨_, Heap.get?_push_size _ rfl, rfl, rfl⟩, fun b hb => ?_, q⟩
    have z : b = s1.heap.objs.size := by simpa using hb
    subst z
    exact I1.fpOk (Nat.le_refl _) (I1.hok.fresh (Nat.le_refl _))
  · obtain ⟨its, rv, p, hz⟩ := I1.tuple hq
    refine wpAny_pyIter_tuple (show s1.heap.IsTuple a its.toArray from p) ⟨s1.heap.objs.size, [s1.heap.objs.size], _, _, H1, rfl, I1.kept (t' := s1.toks) fun b o z => Heap.get?_push_of_some _ z, turn_tuple a _, ⟨_, Heap.get?_push_size _ rfl, rfl, rfl⟩, fun b hb => ?_, q⟩
    have z : b = s1.heap.objs.size := by simpa using hb
    subst z
    exact I1.fpOk (Nat.le_refl _) (I1.hok.fresh (Nat.le_refl _))
def itLT (f : FD) : FA := fun δ => (f δ).bind fun d δ => match d with
  | .lst ds => .ok ds δ
  | .tup ds => .ok ds δ
  | _ => .bad
theorem dit_LT {f : FD} (h : DI M W X e f) (hK : X.K = M.K := by rfl) : DIt M W X tg e (itLT f) := by
  obtain ⟨t, p, h⟩ := h
  refine ⟨_, pi_LT p, fun c F H σ δ Q ok post => h c F H σ δ _ ok (Post.bind post fun d δ1 v F1 H1 _ s1 ok1 r post => ?_)⟩
  split at post
  · unfold ρD rep at r
    obtain ⟨a, vs, rfl, h2, h3⟩ := r
    exact .inl ⟨a, rfl, ⟨vs, SqL.of (ok1.same _ _ h2)⟩, post.ok ok1 (walks_list hK h2 h3)⟩
  · unfold ρD rep at r
    obtain ⟨a, vs, rfl, h2, h3⟩ := r
    exact .inr ⟨a, rfl, ⟨vs, by rw [hK]; exact SqT.of (ok1.same _ _ h2)⟩, post.ok ok1 (walks_tup hK (SqT.of h2) h3)⟩
  · exact post.elim
end
end
end TS

set_option maxRecDepth 100000
set_option maxHeartbeats 4000000
/-! TSh: own exceptions with fields over ValueError, ArithmeticError, LookupError: made and raised. -/
namespace TS
open PySem L2 PySem.W PySem.Calls PyProof.Rows
noncomputable section
/-! the base classes -/
inductive Bas : String → Prop
  | ve : Bas "ValueError"
  | ar : Bas "ArithmeticError"
  | lk : Bas "LookupError"
theorem Bas.base {B : String} (b : Bas B) : ExcBaseFacts B (B ++ ".__new__") (B ++ ".__init__") (bmOf B) := by
  cases b
  · exact F.excBase_ValueError
  · exact F.excBase_ArithmeticError
  · exact F.excBase_LookupError
theorem Bas.store {B : String} (b : Bas B) : StoreFacts B (bmOf B) "object.__setattr__" "object" := by
  cases b
  · exact F.store_ValueError
  · exact F.store_ArithmeticError
  · exact F.store_LookupError
structure OxC (K : PySem.W.Frag) (C : Addr) : Prop where
  bas : ∃ B, Bas B ∧ excInitIn K C (bmOf B) (B ++ ".__new__") = true ∧ excOver K C (bmOf B) = true
  hd : ∃ cd, clsIn K C = some cd ∧ cd.hasDict = true
  sa : findIn K (.ref C) "__setattr__" = some (some (.builtin "object.__setattr__"))
  exC : subIn K (.ref C) (.type "BaseException") = some true
  tyC : typeIn K (.ref C) = some (.type "type")
  kC : keepIn K (.ref C) = true
section
open Builtin Builtin.ObjectAttr
variable {prog : Program} {w : World} {A : Around} {R : Result → Shared → Prop} {hp : Heap} {g : Array GenState} {d : Drawn} {t : Nat} {os : OsState} {K : PySem.W.Frag} {name : Str} {tk : Tok} {v : Value} {x C dx : Addr} {fv : Array Value}
theorem ox_new (T : OxC K C) (X : K.In hp) (hx : hp.get? x = some { cls := .ref C, data := .fields fv }) (ha : findIn K (.ref C) name = some none)
    (hq : ∀ h2 tk2 dx, (∀ b o, b ≠ x → hp.get? b = some o → h2.get? b = some o) → hp.objs.size ≤ dx → dx ≠ x → h2.get? x = some { cls := .ref C, dict := some dx, data := .fields fv } →
      h2.Ns1 dx (fun y => if y = name then some v else none) → R (.ok (.ret .none)) ⟨h2, g, d, tk2, os⟩) :
    codeAny (model prog w) A (.call (.builtin "object.__setattr__") ⟨[.ref x, .str name tk, v], []⟩) R ⟨hp, g, d, t, os⟩ := by
  obtain ⟨B, hB, _, ov⟩ := T.bas
  obtain ⟨cd, hcd, hh⟩ := T.hd
  have J : InstAt hp x { cls := .ref C, data := .fields fv } C none := ⟨hx, rfl, rfl, trivial⟩
  have hxs : x ≠ hp.objs.size := Nat.ne_of_lt (Heap.lt_size hx)
  have hcls : Looks (model prog w) hp (classData C) cd := looks_clsIn X hcd
  refine osa_openX (s := ⟨hp, g, d, t, os⟩) hB.store X J ov (r := none) (by unfold takerIn; rw [ha]; rfl) fun bb => ?_
  show wpAny _ _ (storeInOwnDict (.ref x) (.ref C) (.str name tk) name v bb) _ _ _
  obtain ⟨nm, bs, mro, ns, qn, hd, sn, sb, ab, col, del⟩ := cd
  dsimp only at hh
  subst hh
  unfold storeInOwnDict ownDictForStores
  repeat (first | with_reducible refine HandSPX.store_in_new ?_ ?_ | with_reducible refine wpAny_loadPart_at hx ?_ | with_reducible refine hcls.at ?_ | wp_step)
  · exact ⟨_, #[], _, (Heap.get?_update_ne _ _ _ _ hxs.symm).trans (Heap.get?_push_at rfl rfl), rfl, fun e he => absurd he (by simp), fun _ => rfl⟩
  · intro h2 tk2 hn2 hs
    have hx2 : (hp.push { cls := .type "dict", data := .dict #[] }).get? x = some { cls := .ref C, data := .fields fv } := Heap.get?_push_of_some _ hx
    refine hq h2 tk2 hp.objs.size (fun b o hb ho => ?_) (Nat.le_refl _) hxs.symm ?_ hn2
    · exact (hs.2 b (Nat.ne_of_lt (Heap.lt_size ho))).trans ((Heap.get?_update_ne _ _ _ _ hb).trans (Heap.get?_push_of_some _ ho))
    · exact (hs.2 x hxs).trans (Heap.get?_update_self _ hx2 rfl)
theorem ox_old {m0 : Str → Option Value} {nl : List Str} (T : OxC K C) (X : K.In hp) (hx : hp.get? x = some { cls := .ref C, dict := some dx, data := .fields fv }) (hns : hp.Ns1 dx m0) (hw : Within m0 nl) (hz : nl.length ≤ 1000) (ha : findIn K (.ref C) name = some none)
    (hq : ∀ h2 tk2, (∀ b o, b ≠ dx → hp.get? b = some o → h2.get? b = some o) → h2.Ns1 dx (fun y => if y = name then some v else m0 y) → R (.ok (.ret .none)) ⟨h2, g, d, tk2, os⟩) :
    codeAny (model prog w) A (.call (.builtin "object.__setattr__") ⟨[.ref x, .str name tk, v], []⟩) R ⟨hp, g, d, t, os⟩ := by
  obtain ⟨B, hB, _, ov⟩ := T.bas
  obtain ⟨cd, hcd, hh⟩ := T.hd
  obtain ⟨oD, esD, epD, hoD, hdD, _⟩ := hns.count hw
  have J : InstAt hp x { cls := .ref C, dict := some dx, data := .fields fv } C (some oD) := ⟨hx, rfl, rfl, hoD⟩
  have hcls : Looks (model prog w) hp (classData C) cd := looks_clsIn X hcd
  refine osa_openX (s := ⟨hp, g, d, t, os⟩) hB.store X J ov (r := none) (by unfold takerIn; rw [ha]; rfl) fun bb => ?_
  show wpAny _ _ (storeInOwnDict (.ref x) (.ref C) (.str name tk) name v bb) _ _ _
  obtain ⟨nm, bs, mro, ns, qn, hd, sn, sb, ab, col, del⟩ := cd
  dsimp only at hh
  subst hh
  unfold storeInOwnDict ownDictForStores
  repeat (first | with_reducible refine OEX.store_in_old hns hw hz ?_ | with_reducible refine wpAny_loadPart_at hx ?_ | with_reducible refine hcls.at ?_ | wp_step)
  intro h2 tk2 hn2 hs
  exact hq h2 tk2 (fun b o hb ho => (hs.2 b hb).trans ho) hn2
end
section
variable {X : Cx} {pins : List (Addr × Obj)} {σ : L2.St} {H : Hp} {s : Shared} {a C dx : Addr} {f : Str} {y : V} {u : Value} {fs : List (Str × V)} {Q : Unit → Shared → Prop} {E : Value → Shared → Prop} {A : Around}
theorem gst_new (T : OxC X.K C) (I : Inv X pins σ H s) (ea : H a = some (exo a C none)) (hno : findIn X.K (.ref C) f = some none) (ry : RelV y u)
    (h : ∀ dx s2, H dx = none → dx ≠ a → Inv X pins σ (upd (upd H dx (exd dx [(f, y)])) a (exo a C (some dx))) s2 → Q () s2) : wpAny (model X.prog X.w) A (setAttr (.ref a) f u) Q E s := by
  obtain ⟨t1, ho⟩ := exo_at I.hok ea
  obtain ⟨hp, g, d, t, os⟩ := s
  refine set_plain I.kIn (ox := { cls := .ref C, dict := none, data := .fields #[.ref t1, .none, .none, .none, .bool false, .none] }) (od := none) ⟨ho, rfl, rfl, trivial⟩ T.sa ?_
  refine ox_new T I.kIn ho hno (fun h2 tk2 dx k dn dne hx hn => ?_)
  have fr : H dx = none := I.hok.fresh dn
  have nd : ∀ {b : Addr} {o : Obj}, hp.get? b = some o → b ≠ dx := fun {b o} q => Nat.ne_of_lt (Nat.lt_of_lt_of_le (Heap.lt_size q) dn)
  have na : ∀ {b : Addr}, H b = none → b ≠ a := fun {b} n z => by
    rw [z, ea] at n
    cases n
  have U : Un X.fs [] H (upd (upd H dx (exd dx [(f, y)])) a (exo a C (some dx))) hp h2 :=
    { keep := fun b o q n _ _ => k b o (na n) q
      slot := fun b o q n _ _ => ⟨o.slots, k b o (na n) q⟩
      free := fun b o q n _ => (upd_ne (na n)).trans ((upd_ne (nd q)).trans n)
      there := fun b o q _ => by
        by_cases hb : b = a
        · exact ⟨_, by rw [hb]; exact hx⟩
        · exact ⟨o, k b o hb q⟩
      tups := fun b xs q => (upd_ne (at_ne ea q exo_tup)).trans ((upd_ne (ne_of_none q fr)).trans q)
      frzs := fun b o v q => (upd_ne (at_ne ea q exo_frz)).trans ((upd_ne (ne_of_none q fr)).trans q)
      tbls := fun b ps q => ⟨#[], ((upd_ne (at_ne ea q exo_tbl)).trans ((upd_ne (ne_of_none q fr)).trans q)).trans (by simp)⟩ }
  refine h dx _ fr dne (I.un (t' := tk2) U fun b o q => ?_)
  by_cases hb : b = a
  · subst hb
    rw [upd_same] at q
    cases q
    exact exo_ok hx
  · rw [upd_ne hb] at q
    by_cases hd : b = dx
    · subst hd
      rw [upd_same] at q
      cases q
      exact exd_ok hn (relO_put (fs := []) ry fun g => True.intro)
    · rw [upd_ne hd] at q
      refine (I.hok b o q).stay (fun c v hc z => k c v ?_ z) (fun c hc => ?_) (fun c xs hc => ?_)
      · rcases hc with hc | hc
        · rw [hc]; exact hb
        · exact at_ne ea hc exo_own
      · exact (upd_ne (at_ne ea hc exo_own)).trans ((upd_ne (ne_of_none hc fr)).trans hc)
      · exact (upd_ne (at_ne ea hc exo_tup)).trans ((upd_ne (ne_of_none hc fr)).trans hc)
theorem gst_old (T : OxC X.K C) (I : Inv X pins σ H s) (ea : H a = some (exo a C (some dx))) (ed : H dx = some (exd dx fs)) (hl : fs.length ≤ 900) (hno : findIn X.K (.ref C) f = some none) (ry : RelV y u)
    (h : ∀ s2, Inv X pins σ (upd H dx (exd dx ((f, y) :: fs))) s2 → Q () s2) : wpAny (model X.prog X.w) A (setAttr (.ref a) f u) Q E s := by
  obtain ⟨t1, ho⟩ := exo_at I.hok ea
  obtain ⟨mA, hns, rel⟩ := exd_at I.hok ed
  have hw := within_of rel
  obtain ⟨hp, g, d, t, os⟩ := s
  obtain ⟨oD, _, _, hoD, _, _⟩ := hns.count hw
  refine set_plain I.kIn (ox := { cls := .ref C, dict := some dx, data := .fields #[.ref t1, .none, .none, .none, .bool false, .none] }) (od := some oD) ⟨ho, rfl, rfl, hoD⟩ T.sa ?_
  refine ox_old T I.kIn ho hns hw (by rw [List.length_map]; omega) hno (fun h2 tk2 k hn => ?_)
  have hd : ∃ o, h2.get? dx = some o := let ⟨o, _, _, e, _⟩ := hn; ⟨o, e⟩
  exact h _ (I.write (t' := tk2) (x := dx) (e := dx) (o := exd dx ((f, y) :: fs)) (by rw [ed]; exact True.intro) (.inl rfl) k hd (exd_ok hn (relO_put ry rel)))
end
/-- self.f = e in an exception's __init__ -/
def tGst (K : PySem.W.Frag) (f : Str) (to te : TE) : TS := fun D σ H => te σ H fun y H1 => to σ H1 fun x H2 => ∃ a C : Addr, x = .ref a ∧ OxC K C ∧ findIn K (.ref C) f = some none ∧
  ((H2 a = some (exo a C none) ∧ ∀ dx, H2 dx = none → dx ≠ a → D.nx σ (upd (upd H2 dx (exd dx [(f, y)])) a (exo a C (some dx)))) ∨
    ∃ (dx : Addr) (fs : List (Str × V)), H2 a = some (exo a C (some dx)) ∧ H2 dx = some (exd dx fs) ∧ fs.length ≤ 900 ∧ D.nx σ (upd H2 dx (exd dx ((f, y) :: fs))))
section
variable {X : Cx} {o e : Expr} {es : List Expr} {to te : TE} {ta : TA} {f : Str} {p p' p1 p2 pos : Pos}
theorem ps_gst (ho : PE X o to) (he : PE X e te) (hs : swapsWith e (some (.Attribute o f p')) pos.line X.env = pure false := by rfl) : PS X (.Assign [.Attribute o f p'] e pos) (tGst X.K f to te) := by
  refine ⟨fun pins s σ H D I h => plainObj_wpAny_Assign_Attribute (thn (he.run pins s σ H _ I h) fun v s1 ⟨y, H1, I1, r1, q1⟩ => thn (ho.run pins s1 σ H1 _ I1 q1) fun u s2 ⟨x, H2, I2, r2, a, C, ex, T, hno, q⟩ => ?_) hs⟩
  subst ex
  obtain rfl : u = Value.ref a := r2
  rcases q with ⟨ea, q⟩ | ⟨dx, fs, ea, ed, hl, q⟩
  · exact gst_new T I2 ea hno r1 fun dx s3 n ne J => ⟨σ, _, J, q dx n ne⟩
  · exact gst_old T I2 ea ed hl hno r1 fun s3 J => ⟨σ, _, J, q⟩
theorem pmk_gx {CX : CXT} {x : Str} {C fI : Addr} {k : Nat} {fd : FuncData} {ps : List Str} {sp : Sp} (T : OxC X.K C) (iC : findIn X.K (.ref C) "__init__" = some (some (.ref fI))) (tI : typeIn X.K (.ref fI) = some (.type "function"))
    (F1 : TS.FnOk X.prog X.w X.K X.mg X.base CX k fI fd ps sp) (hr : TS.Room (k + 1) X.A) (hb : Binds X.K fd ps []) (hx : Passes CX X (fun _ _ _ => False)) (hg : Gl X x) (hm : X.mg x = some (.ref C)) (ha : PA X (e :: es) ta)
    (hdb : (x == ("__debug__" : Str)) = false := by decide) (he : starEach (e :: es) X.env = (false, eval e X.env) :: starEach es X.env := by rfl) (hpl : (backTo pos (starEach es X.env)).any (·.1) = false := by rfl) :
    PMk X (.Call (.Name x p) (e :: es) [] pos) (tMkO C sp [] ta) := by
  intro pins s σ H Q I h
  obtain ⟨B, hB, ini, _⟩ := T.bas
  refine wpAny_Call_Name_kw (ld_glob I hg hm ?_ hdb)
  refine callWith_K (h₀ := X.base) I.ok.mod.kin T.kC (thn (ha.run pos pins s σ H _ I h) fun us s1 ⟨vs, H1, I1, r1, hz, q1⟩ => ⟨I1.kIn, ?_⟩) he hpl
  show wpAny _ _ (call (.ref C) us) _ _ _
  obtain ⟨hp, g, dr, tk, os⟩ := s1
  obtain ⟨nm, N, qn, bs, bm, hdct, sn, sub, ab, col, dd, k0, k1, k2, k3, k5, hC, hT⟩ := excInit_of I1.kIn ini
  have hsz : hp.objs.size ≤ hp.objs.size + 1 := Nat.le_succ _
  have hn : H1 (hp.objs.size + 1) = none := I1.hok.fresh hsz
  have hq := q1 (hp.objs.size + 1) hn
  rw [List.append_nil] at hq
  have kk : ∀ b o, hp.get? b = some o → ((hp.push (kdv_tup us)).push (HandSPX.excO C hp.objs.size)).get? b = some o := fun b o z => Heap.get?_push_of_some _ (Heap.get?_push_of_some _ z)
  have hget : ((hp.push (kdv_tup us)).push (HandSPX.excO C hp.objs.size)).get? (hp.objs.size + 1) = some (HandSPX.excO C hp.objs.size) := by heap_get
  have I2 : Inv X pins σ (upd H1 (hp.objs.size + 1) (exo (hp.objs.size + 1) C none)) ⟨(hp.push (kdv_tup us)).push (HandSPX.excO C hp.objs.size), g, dr, tk, os⟩ :=
    I1.laid (t' := tk) (a := hp.objs.size + 1) (o := exo (hp.objs.size + 1) C none) (h' := (hp.push (kdv_tup us)).push (HandSPX.excO C hp.objs.size)) kk hsz (exo_ok hget)
  have r2 : Vals (V.ref (hp.objs.size + 1) :: vs) (Value.ref (hp.objs.size + 1) :: us) := .cons rfl r1
  have hl : (Value.ref (hp.objs.size + 1) :: us ++ []).length = ps.length := by
    rw [List.append_nil]
    exact (r2.length.symm.trans (F1.len _ _ _ _ hq))
  have hus : us.length ≤ sizeLine := by
    rw [← Paired.length r1, sizeLine_eq]
    omega
  refine wpAny_call (HandSPX.call_own hB.base hT hC (looks_findIn I1.kIn iC) (fun self => bind_fn I1.kIn self tI) hus
    (codeAny_mono (F1.run _ X.stack _ _ ⟨Value.ref (hp.objs.size + 1) :: us, []⟩ (Value.ref (hp.objs.size + 1) :: us) _ _ (fun _ _ _ => False) (hr.make C us []) (I2.env0.make C us []) (by
      have := hb _ (Value.ref (hp.objs.size + 1) :: us) I2.kIn hl
      rwa [List.append_nil] at this) r2 hq) fun r s2 hq2 => ?_))
  cases r with
  | error er => exact hx pins σ _ _ er s2 I2 hq2
  | ok fl =>
    cases fl with
    | ret u =>
      obtain ⟨v, H2, os2, bare2, un2, hok2, rv, ev, d, fs, ea, ed, hd1, q2⟩ := hq2
      subst ev
      obtain ⟨h2, g2, d2, t2, os3⟩ := s2
      exact ⟨rv, mk_end (raises_own T.exC T.tyC) I1 hsz kk un2 hok2 os2 bare2 ea ed hd1 q2⟩
    | next => exact False.elim hq2
    | brk => exact False.elim hq2
    | cont => exact False.elim hq2
end
/-! ### the __init__ of such a class: self.f = f, one after the other -/
def spX (C : Addr) (ns : List Str) : Sp := fun vs H Q _ => ∃ (a : Addr) (ws : List V), vs = .ref a :: ws ∧ ws.length = ns.length ∧ H a = some (exo a C none) ∧
  ∀ (dx : Addr) (H' : Hp), H dx = none → dx ≠ a → H' a = some (exo a C (some dx)) → H' dx = some (exd dx (ns.zip ws).reverse) → (∀ b, b ≠ a → b ≠ dx → H' b = H b) → Q .non H'
/-- the stores from the j-th on -/
def IniS (X : Cx) (C : Addr) (ns : List Str) (ss : List Stmt) (j : Nat) : Prop := ∃ t, PSs X ss t ∧ ∀ (D : Ends) (a dx : Addr) (ws : List V) (σ : L2.St) (H0 H : Hp), σ[0]? = some (some (.ref a)) → (∀ i w, ws[i]? = some w → σ[i + 1]? = some (some w)) → ws.length = ns.length → dx ≠ a →
  H a = some (exo a C (some dx)) → H dx = some (exd dx ((ns.zip ws).take j).reverse) → (∀ b, b ≠ a → b ≠ dx → H b = H0 b) →
  (∀ H', H' a = some (exo a C (some dx)) → H' dx = some (exd dx (ns.zip ws).reverse) → (∀ b, b ≠ a → b ≠ dx → H' b = H0 b) → D.nx σ H') → t D σ H
section
variable {X : Cx} {C : Addr} {ns : List Str} {ss : List Stmt} {j : Nat} {f : Str} {p p' p1 pos : Pos}
theorem inis_nil (h : j = ns.length) : IniS X C ns [] j := by
  refine ⟨_, pss_nil, fun D a dx ws σ H0 H h0 hw hl hne ea ed hb k => ?_⟩
  refine k H ea ?_ hb
  rw [h, List.take_of_length_le (by rw [List.length_zip]; omega)] at ed
  exact ed
theorem zip_take {ws : List V} {w : V} (hn : ns[j]? = some f) (hw : ws[j]? = some w) : (ns.zip ws).take (j + 1) = (ns.zip ws).take j ++ [(f, w)] := by
  rw [List.take_add_one]
  have : (ns.zip ws)[j]? = some (f, w) := by rw [List.getElem?_zip_eq_some]; exact ⟨hn, hw⟩
  rw [this]; rfl
theorem inis_cons (T : OxC X.K C) (hno : findIn X.K (.ref C) f = some none) (hn : ns[j]? = some f) (hs0 : PE X (.Name "self" p) (tVar 0)) (hs1 : PE X (.Name f p1) (tVar (j + 1))) (hj : ns.length ≤ 900) (r : IniS X C ns ss (j + 1))
    (hs : swapsWith (.Name f p1) (some (.Attribute (.Name "self" p) f p')) pos.line X.env = pure false := by rfl) : IniS X C ns (.Assign [.Attribute (.Name "self" p) f p'] (.Name f p1) pos :: ss) j := by
  obtain ⟨t, pt, ht⟩ := r
  refine ⟨_, pss_cons (ps_gst hs0 hs1 hs) pt, fun D a dx ws σ H0 H h0 hw hl hne ea ed hb k => ?_⟩
  have hjl : j < ns.length := (List.getElem?_eq_some_iff.mp hn).1
  have hwj : ws[j]? = some (ws[j]'(by omega)) := List.getElem?_eq_getElem _
  refine ⟨ws[j]'(by omega), hw j _ hwj, .ref a, h0, a, C, rfl, T, hno, .inr ⟨dx, _, ea, ed, by simp; omega, ?_⟩⟩
  refine ht D a dx ws σ H0 _ h0 hw hl hne ((upd_ne (Ne.symm hne)).trans ea) ?_ (fun b h1 h2 => (upd_ne h2).trans (hb b h1 h2)) k
  rw [upd_same, zip_take hn hwj, List.reverse_append]
  rfl
theorem init_body {N : List Str} {sp0 : Unit} (T : OxC X.K C) (hno : findIn X.K (.ref C) f = some none) (hn : ns[0]? = some f) (hs0 : PE X (.Name "self" p) (tVar 0)) (hs1 : PE X (.Name f p1) (tVar 1)) (r : IniS X C ns ss 1)
    (hs : swapsWith (.Name f p1) (some (.Attribute (.Name "self" p) f p')) pos.line X.env = pure false := by rfl) :
    ∃ t, PSs X (.Assign [.Attribute (.Name "self" p) f p'] (.Name f p1) pos :: ss) t ∧ ∀ (D : Ends) (a : Addr) (ws : List V) (σ : L2.St) (H : Hp), σ[0]? = some (some (.ref a)) → (∀ i w, ws[i]? = some w → σ[i + 1]? = some (some w)) → ws.length = ns.length → H a = some (exo a C none) →
      (∀ (dx : Addr) (H' : Hp), H dx = none → dx ≠ a → H' a = some (exo a C (some dx)) → H' dx = some (exd dx (ns.zip ws).reverse) → (∀ b, b ≠ a → b ≠ dx → H' b = H b) → D.nx σ H') → t D σ H := by
  obtain ⟨t, pt, ht⟩ := r
  refine ⟨_, pss_cons (ps_gst hs0 hs1 hs) pt, fun D a ws σ H h0 hw hl ea k => ?_⟩
  have hjl : 0 < ns.length := (List.getElem?_eq_some_iff.mp hn).1
  have hwj : ws[0]? = some (ws[0]'(by omega)) := List.getElem?_eq_getElem _
  refine ⟨ws[0]'(by omega), hw 0 _ hwj, .ref a, h0, a, C, rfl, T, hno, .inl ⟨ea, fun dx hd hne => ?_⟩⟩
  refine ht D a dx ws σ H _ h0 hw hl hne upd_same ?_ (fun b h1 h2 => (upd_ne h1).trans (upd_ne h2)) (fun H' k1 k2 k3 => k dx H' hd hne k1 k2 k3)
  rw [upd_ne hne, upd_same]
  have z := zip_take (j := 0) hn hwj
  rw [z]
  rfl
end
theorem start_get {N : List Str} {vs : List V} {i : Nat} {v : V} (h : vs[i]? = some v) : (L2.start N vs)[i]? = some (some v) := by
  unfold L2.start
  have hl : i < vs.length := (List.getElem?_eq_some_iff.mp h).1
  rw [List.getElem?_append_left (by simpa using hl), List.getElem?_map, h]; rfl
/-- the def keeps spX -/
theorem funD_ini {P : Program} {w : World} {K : PySem.W.Frag} {mg : Str → Option Value} {base : Heap} {qual : Str} {params : Arguments} {body : List Stmt} {scope : Scope} {f C : Addr} {fd : FuncData} {N ps ns : List Str} (Fd : FunD K "__init__" qual params body scope [] [] f fd) (S : FnScope N ps scope) (hps : ps.length = ns.length + 1)
    (hb : ∀ (cdv : Value) (A : Around) (outer : List Env) (s : Shared) (H : Hp) (E : XK), ∃ t, PSs (cxOf (L2.CX P w) P w K mg base N qual scope f cdv A outer s H E) body t ∧ ∀ (D : Ends) (a : Addr) (ws : List V) (σ : L2.St) (H : Hp), σ[0]? = some (some (.ref a)) → (∀ i w, ws[i]? = some w → σ[i + 1]? = some (some w)) → ws.length = ns.length → H a = some (exo a C none) →
      (∀ (dx : Addr) (H' : Hp), H dx = none → dx ≠ a → H' a = some (exo a C (some dx)) → H' dx = some (exd dx (ns.zip ws).reverse) → (∀ b, b ≠ a → b ≠ dx → H' b = H b) → D.nx σ H') → t D σ H) :
    TS.FnOk P w K mg base (L2.CX P w) 1 f fd ps (spX C ns) := by
  refine FnOk.of (k := 0) Fd S (fun vs H Q E h => ?_) (fun cdv A outer s H vs Q E hr h => ?_)
  · obtain ⟨a, ws, rfl, hl, _⟩ := h
    rw [List.length_cons, hl, hps]
  · obtain ⟨t, pt, ht⟩ := hb cdv A outer s H E
    obtain ⟨a, ws, rfl, hl, ea, k⟩ := h
    exact ⟨t, pt, ht _ a ws _ H (start_get rfl) (fun i w hw => start_get (by simpa using hw)) hl ea k⟩
/-! ### raise -/
section
variable {M : Gm} {c : Cn M} {W : WX} {X : Cx} {F H : Hp} {σ : L2.St} {δ : Sl}
theorem reps_reverse : ∀ {ds : List D} {vs : List V}, reps M F ds vs → reps M F ds.reverse vs.reverse
  | [], vs, h => by unfold reps at h; subst h; exact reps_nil
  | d :: ds, vs, h => by
    unfold reps at h
    obtain ⟨v, r, rfl, h2, h3⟩ := h
    rw [List.reverse_cons, List.reverse_cons]
    exact reps_append (reps_reverse h3) (reps_cons h2 reps_nil)
/-- more is frozen: nothing of the slots -/
theorem Ok.froze {F' : Hp} (ok : Ok c F H σ δ) (g : Same F F') (hs : Same F' H) (htb : Tb M F' H) (hn : ∀ b, c.H0 b ≠ none → F' b = F b) (ho : ∀ (i : Nat) (r : R) (a : Addr), δ[i]? = some (some r) → r.mu = true → σ[i]? = some (some (V.ref a)) → F' a = none) : Ok c F' H σ δ where
  same := hs
  grow := ok.grow.trans g
  nofz := fun b e1 e2 => by rw [hn b e1]; exact ok.nofz b e1 e2
  kept := ok.kept
  ioh := ok.ioh
  tb := htb
  len := ok.len
  slot := fun i r e => by
    obtain ⟨v, e1, e2⟩ := ok.slot i r e
    refine ⟨v, e1, ?_⟩
    cases r with
    | imm d => exact rep_mono g _ _ e2
    | own o =>
      obtain ⟨b, rfl, k1, k2, k3⟩ := e2
      exact ⟨b, rfl, ho i _ b e rfl e1, k2, obAt_mono g rfl k3⟩
    | brw o =>
      obtain ⟨b, rfl, k1, k2, k3⟩ := e2
      exact ⟨b, rfl, ho i _ b e rfl e1, k2, obAt_mono g rfl k3⟩
  dist := ok.dist
def sRaise (n k : Nat) (fa : FA) : FS := fun δ => (fa δ).bindS fun ds δ1 => if ds.length = k then .exc ⟨n, ds.reverse⟩ δ1 else .bad
theorem ds_raise {n k j : Nat} {C fI : Addr} {x : Str} {ns ps : List Str} {fd : FuncData} {e : Expr} {es : List Expr} {fa : FA} {p pos pos2 : Pos} (hG : M.G n = some C) (hnm : M.nm n = ns.reverse) (hk : ns.length = k) (T : OxC X.K C) (iC : findIn X.K (.ref C) "__init__" = some (some (.ref fI))) (tI : typeIn X.K (.ref fI) = some (.type "function"))
    (F1 : TS.FnOk X.prog X.w X.K X.mg X.base (L2.CX X.prog X.w) 1 fI fd ps (spX C ns)) (hr : TS.Room j X.A) (h2 : 2 ≤ j) (hk2 : k ≤ 100) (hb : Binds X.K fd ps []) (hc : X.calm = true) (tk : Takes X W) (hg : Gl X x) (hm : X.mg x = some (.ref C)) (ha : DA M W X (e :: es) fa)
    (hdb : (x == ("__debug__" : Str)) = false := by decide) (he : starEach (e :: es) X.env = (false, eval e X.env) :: starEach es X.env := by rfl) (hpl : (backTo pos (starEach es X.env)).any (·.1) = false := by rfl) :
    DS M W X (.Raise (some (.Call (.Name x p) (e :: es) [] pos)) none pos2) (sRaise n k fa) := by
  obtain ⟨ta, pa, ha⟩ := ha
  refine ⟨_, ps_raise hc tk (pmk_gx T iC tI F1 (hr.mono h2) hb (passes_call tk fun _ _ _ _ z => z.elim) hg hm pa hdb he hpl), fun c F H σ δ E ok post => ?_⟩
  refine ha c F H σ δ _ ok (PostS.ofE post fun ds δ1 vs F1 H1 _ s ok1 rr post => ?_)
  split at post
  · rename_i hl
    have hvl := reps_length rr
    refine ⟨by omega, fun a han => ?_⟩
    refine ⟨a, vs, by rw [List.append_nil], by omega, upd_same, fun dx H2 hd hne k1 k2 k3 => ⟨rfl, dx, _, k1, k2, ?_, ?_⟩⟩
    · rw [upd_ne hne] at hd; exact hd
    · rw [upd_ne hne] at hd
      have eG : upd (del H2 a) dx (.xd (ns.zip vs).reverse) = upd H1 dx (.xd (ns.zip vs).reverse) := by
        funext b
        by_cases hb : b = dx
        · rw [hb, upd_same, upd_same]
        · rw [upd_ne hb, upd_ne hb]
          by_cases hba : b = a
          · rw [hba, del_same, han]
          · rw [del_ne hba, k3 b hba hb, upd_ne hba]
      rw [eG]
      have hf1 : F1 dx = none := ok1.f hd
      have g1 : Same F1 (upd F1 dx (.xd (ns.zip vs).reverse)) := fun b o q => by rw [upd_ne (ne_of_none q hf1)]; exact q
      refine post (.ref C) (some dx) (upd F1 dx (.xd (ns.zip vs).reverse)) _ σ g1 ((ok1.alloc hd).froze g1 (fun b o q => ?_) ((ok1.tb.alloc hd).frz upd_same rfl) (fun b h0 => ?_) (fun i r a2 q1 q2 q3 => ?_)) ⟨C, hG, rfl, .inr ⟨dx, _, rfl, upd_same, ?_, ?_⟩⟩
      · by_cases hb : b = dx
        · subst hb; rw [upd_same] at q ⊢; exact q
        · rw [upd_ne hb] at q ⊢; exact ok1.same b o q
      · by_cases hb : b = dx
        · exact absurd (hb ▸ ok1.h0 hd) h0
        · exact upd_ne hb
      · obtain ⟨b, o, e1, e2, e3, _⟩ := (ok1.alloc hd (o := .xd (ns.zip vs).reverse)).mus q1 q2
        rw [q3] at e1
        cases e1
        have hb : a2 ≠ dx := fun z => ok1.fresh hd i r q1 q2 (by rw [q3, z])
        rw [upd_ne hb]; exact e2
      · rw [hnm, List.map_reverse, List.map_fst_zip (by omega)]
      · rw [List.map_reverse, List.map_snd_zip (by omega)]
        exact reps_mono g1 _ _ (reps_reverse rr)
  · exact post.elim
end
end
end TS

set_option maxRecDepth 100000
set_option maxHeartbeats 4000000
/-! TSi: except suites, try. -/
namespace TS
open PySem L2 PySem.W PySem.Calls PyProof.Rows
noncomputable section
/-- the caught exception: the slot of its name, where it is, its class, its dict, what it is -/
structure Cau where
  i : Nat
  a : Addr
  cls : Value
  d : Option Addr
  x : XD
def Zx (M : Gm) (q : Cau) (F : Hp) (σ : L2.St) : Prop := σ[q.i]? = some (some (.ref q.a)) ∧ xAt M F q.x q.cls q.d F
theorem xAt_mono {M : Gm} {F F' H H' : Hp} {x : XD} {cls : Value} {d : Option Addr} (g : Same F F') (h : xAt M F x cls d H) : xAt M F' x cls d H' := by
  obtain ⟨C, h1, h2, h3⟩ := h
  refine ⟨C, h1, h2, ?_⟩
  rcases h3 with h3 | ⟨dd, fs, k1, k2, k3, k4⟩
  · exact .inl h3
  · exact .inr ⟨dd, fs, k1, g _ _ k2, k3, reps_mono g _ _ k4⟩
theorem Zx.mono {M : Gm} {q : Cau} {F F' : Hp} {σ : L2.St} (h : Zx M q F σ) (g : Same F F') : Zx M q F' σ := ⟨h.1, xAt_mono g h.2⟩
def DEz (M : Gm) (W : WX) (X : Cx) (q : Cau) (e : Expr) (f : FE) : Prop := ∃ t, PE X e t ∧ ∀ (c : Cn M) F H σ δ Q, Zx M q F σ → Ok c F H σ δ → Post c W F σ (ρR c σ) (f δ) Q → t σ H Q
def DIz (M : Gm) (W : WX) (X : Cx) (q : Cau) (e : Expr) (f : FD) : Prop := ∃ t, PE X e t ∧ ∀ (c : Cn M) F H σ δ Q, Zx M q F σ → Ok c F H σ δ → Post c W F σ (ρD c) (f δ) Q → t σ H Q
def DTz (M : Gm) (W : WX) (X : Cx) (q : Cau) (e : Expr) (f : FT) : Prop := ∃ t, PT X e t ∧ ∀ (c : Cn M) F H σ δ Q, Zx M q F σ → Ok c F H σ δ → Post c W F σ ρT (f δ) Q → t σ H Q
def DWz (M : Gm) (W : WX) (X : Cx) (q : Cau) (e : Expr) (f : FT) : Prop := ∃ t, PW X e t ∧ ∀ (c : Cn M) F H σ δ Q, Zx M q F σ → Ok c F H σ δ → Post c W F σ ρT (f δ) Q → t σ H Q
def DAz (M : Gm) (W : WX) (X : Cx) (q : Cau) (es : List Expr) (f : FA) : Prop := ∃ t, PA X es t ∧ ∀ (c : Cn M) F H σ δ Q, Zx M q F σ → Ok c F H σ δ → Post c W F σ (ρA c) (f δ) Q → t σ H Q
section
variable {M : Gm} {c : Cn M} {W : WX} {X : Cx} {q : Cau} {e a b : Expr} {es : List Expr} {pos p : Pos}
theorem z_i {f : FD} (h : DI M W X e f) : DIz M W X q e f := let ⟨t, p, h⟩ := h; ⟨t, p, fun c F H σ δ Q _ ok post => h c F H σ δ Q ok post⟩
theorem z_e {f : FE} (h : DE M W X e f) : DEz M W X q e f := let ⟨t, p, h⟩ := h; ⟨t, p, fun c F H σ δ Q _ ok post => h c F H σ δ Q ok post⟩
theorem z_t {f : FT} (h : DT M W X e f) : DTz M W X q e f := let ⟨t, p, h⟩ := h; ⟨t, p, fun c F H σ δ Q _ ok post => h c F H σ δ Q ok post⟩
theorem z_toE {f : FD} (h : DIz M W X q e f) : DEz M W X q e (toE f) := by
  obtain ⟨t, p, h⟩ := h
  exact ⟨t, p, fun c F H σ δ Q z ok post => h c F H σ δ Q z ok (Post.bind post fun d δ1 v F1 H1 _ s ok1 r post => post.ok ok1 r)⟩
theorem z_frz {f : FE} (h : DEz M W X q e f) : DIz M W X q e (frz f) := by
  obtain ⟨t, p, h⟩ := h
  refine ⟨t, p, fun c F H σ δ Q z ok post => h c F H σ δ Q z ok (Post.bind post fun r δ1 v F1 H1 _ s ok1 rr post => ?_)⟩
  cases r with
  | imm d => exact post.ok ok1 rr
  | own o =>
    obtain ⟨F', g, ok', r'⟩ := ok1.freeze rr
    exact post v F' H1 g ok' r'
  | brw o => exact post.elim
theorem z_nil : DAz M W X q [] aNil := ⟨_, pa_nil, fun c F H σ δ Q _ ok post => post.ok ok reps_nil⟩
theorem z_cons {f : FD} {g : FA} (h : DIz M W X q e f) (h' : DAz M W X q es g) (hs : starEach (e :: es) X.env = (false, eval e X.env) :: starEach es X.env := by rfl) : DAz M W X q (e :: es) (aCons f g) := by
  obtain ⟨t, p, h⟩ := h
  obtain ⟨t', p', h'⟩ := h'
  exact ⟨_, pa_cons p p' hs, fun c F H σ δ Q z ok post => h c F H σ δ _ z ok (Post.bind post fun d δ1 v F1 H1 _ s ok1 r post => h' c F1 H1 σ δ1 _ (z.mono s) ok1 (Post.bind post fun ds δ2 vs F2 H2 _ s2 ok2 rs post => post.ok ok2 (reps_cons (rep_mono s2 _ _ r) rs)))⟩
theorem z_lst {fa : FA} (h : DAz M W X q es fa) : DEz M W X q (.List es pos) (fLst fa) := by
  obtain ⟨t, p, h⟩ := h
  refine ⟨_, pe_lst p, fun c F H σ δ Q z ok post => h c F H σ δ _ z ok (Post.bind post fun ds δ1 vs F1 H1 _ s ok1 rs post => ?_)⟩
  split at post
  · rename_i hl
    refine ⟨by rw [reps_length rs, sizeLine_eq]; exact hl, fun r hr => ?_⟩
    obtain ⟨o1, o2⟩ := new_list ok1 hr rs
    exact post.ok o1 o2
  · exact post.elim
theorem z_tup {x1} {fa : FA} (h : DAz M W X q es fa) : DIz M W X q (.Tuple es x1 pos) (fTup fa) := by
  obtain ⟨t, p, h⟩ := h
  refine ⟨_, pe_tup p, fun c F H σ δ Q z ok post => h c F H σ δ _ z ok (Post.bind post fun ds δ1 vs F1 H1 _ s ok1 rs post => ?_)⟩
  split at post
  · rename_i hl
    refine ⟨by rw [reps_length rs, sizeLine_eq]; exact hl, fun r hr => ?_⟩
    obtain ⟨F', g, o1, o2⟩ := new_tup ok1 hr rs
    exact post _ F' _ g o1 o2
  · exact post.elim
theorem z_val {f : FE} (h : DEz M W X q e f) (he : ∀ whole, isTrue e X.env whole = (do let v ← whole; standAt e.pos; holding [v] (truthy v)) := by intro _; rfl) : DTz M W X q e (fTst f) := by
  obtain ⟨t, p, h⟩ := h
  refine ⟨_, pt_val p he, fun c F H σ δ Q z ok post => h c F H σ δ _ z ok (Post.bind post fun r δ1 v F1 H1 _ s ok1 rr post => ?_)⟩
  split at post
  · rename_i b0 _
    have e : v = .bl b0 := by
      have y : rep M F1 (.bl b0) v := rr
      unfold rep at y; exact y
    subst e
    exact ⟨b0, rfl, post.ok ok1 rfl⟩
  · exact post.elim
theorem z_not {f : FD} (h : DIz M W X q a f) : DIz M W X q (.UnaryOp .Not a pos) (fNotV f) := by
  obtain ⟨t, p, h⟩ := h
  refine ⟨_, pe_not p, fun c F H σ δ Q z ok post => h c F H σ δ _ z ok (Post.bind post fun d δ1 v F1 H1 _ s ok1 r post => ?_)⟩
  split at post
  · rename_i b0 _
    have e : v = .bl b0 := by unfold ρD rep at r; exact r
    subst e
    exact ⟨b0, rfl, post.ok ok1 (rep_bl' _)⟩
  · exact post.elim
theorem z_one {op} {f : FE} (h : DEz M W X q a f) : DEz M W X q (.BoolOp op [a] pos) f := let ⟨t, p, h⟩ := h; ⟨t, pe_one p, h⟩
theorem z_and {f : FD} {g : FE} {rest : List Expr} (h : DIz M W X q a f) (h' : DEz M W X q (.BoolOp .And (b :: rest) pos) g) : DEz M W X q (.BoolOp .And (a :: b :: rest) pos) (fAndV f g) := by
  obtain ⟨t, p, h⟩ := h
  obtain ⟨t', p', h'⟩ := h'
  refine ⟨_, pe_and p p', fun c F H σ δ Q z ok post => h c F H σ δ _ z ok (Post.bind post fun d δ1 v F1 H1 _ s ok1 r post => ?_)⟩
  split at post
  · have e : v = .bl true := by unfold ρD rep at r; exact r
    subst e
    exact ⟨true, rfl, h' c F1 H1 σ δ1 Q (z.mono s) ok1 post⟩
  · have e : v = .bl false := by unfold ρD rep at r; exact r
    subst e
    exact ⟨false, rfl, post.ok ok1 rr_bl⟩
  · exact post.elim
theorem z_or {f : FD} {g : FE} {rest : List Expr} (h : DIz M W X q a f) (h' : DEz M W X q (.BoolOp .Or (b :: rest) pos) g) : DEz M W X q (.BoolOp .Or (a :: b :: rest) pos) (fOrV f g) := by
  obtain ⟨t, p, h⟩ := h
  obtain ⟨t', p', h'⟩ := h'
  refine ⟨_, pe_or p p', fun c F H σ δ Q z ok post => h c F H σ δ _ z ok (Post.bind post fun d δ1 v F1 H1 _ s ok1 r post => ?_)⟩
  split at post
  · have e : v = .bl true := by unfold ρD rep at r; exact r
    subst e
    exact ⟨true, rfl, post.ok ok1 rr_bl⟩
  · have e : v = .bl false := by unfold ρD rep at r; exact r
    subst e
    exact ⟨false, rfl, h' c F1 H1 σ δ1 Q (z.mono s) ok1 post⟩
  · exact post.elim
theorem z_if {f : FT} {g g' : FE} {t : Expr} (h : DTz M W X q t f) (ha : DEz M W X q a g) (hb : DEz M W X q b g') : DEz M W X q (.IfExp t a b pos) (fIfE f g g') := by
  obtain ⟨t, p, h⟩ := h
  obtain ⟨ta, pa, ha⟩ := ha
  obtain ⟨tb, pb, hb⟩ := hb
  refine ⟨_, pe_ifExp p pa pb, fun c F H σ δ Q z ok post => h c F H σ δ _ z ok (Post.bind post fun b δ1 k F1 H1 _ s ok1 e post => ?_)⟩
  cases (show b = k from e)
  cases b with
  | true => exact ha c F1 H1 σ δ1 Q (z.mono s) ok1 post
  | false => exact hb c F1 H1 σ δ1 Q (z.mono s) ok1 post
theorem z_tnot {f : FT} (h : DTz M W X q a f) : DTz M W X q (.UnaryOp .Not a pos) (fNot f) := by
  obtain ⟨t, p, h⟩ := h
  refine ⟨_, pt_not p, fun c F H σ δ Q z ok post => h c F H σ δ _ z ok (Post.bind post fun b δ1 k F1 H1 _ s ok1 e post => ?_)⟩
  cases (show b = k from e)
  exact post.ok ok1 rfl
theorem DWz.pt {f : FT} (h : DWz M W X q e f) : DTz M W X q e f := let ⟨t, p, h⟩ := h; ⟨t, p.pt, h⟩
theorem zw_or1 {f : FT} (h : DTz M W X q a f) : DWz M W X q (.BoolOp .Or [a] pos) f := let ⟨t, p, h⟩ := h; ⟨t, pw_or1 p, h⟩
theorem zw_or {f g : FT} {rest : List Expr} (h : DTz M W X q a f) (h' : DWz M W X q (.BoolOp .Or (b :: rest) pos) g) : DWz M W X q (.BoolOp .Or (a :: b :: rest) pos) (fOr f g) := by
  obtain ⟨t, p, h⟩ := h
  obtain ⟨t', p', h'⟩ := h'
  refine ⟨_, pw_or p p', fun c F H σ δ Q z ok post => h c F H σ δ _ z ok (Post.bind post fun b δ1 k F1 H1 _ s ok1 e post => ?_)⟩
  cases (show b = k from e)
  cases b with
  | false => exact h' c F1 H1 σ δ1 Q (z.mono s) ok1 post
  | true => exact post.ok ok1 rfl
end
/-! ### what the suite asks of the exception -/
def xFld (j : Nat) (x : XD) : FD := fun δ => match x.vs[j]? with
  | some d => .ok d δ
  | none => .bad
def xIs (tab : Nat → Option Bool) (x : XD) : FD := fun δ => match x.vs, tab x.c with
  | _ :: _, some b => .ok (.bl b) δ
  | _, _ => .bad
/-- the field's place, by the class -/
def xFldT (tab : Nat → Option Nat) (x : XD) : FD := fun δ => match tab x.c with
  | some j => xFld j x δ
  | none => .bad
/-- what an own exception class must have to be asked -/
structure XqC (K : PySem.W.Frag) (C : Addr) : Prop where
  xf : XfC K C
  cl : (clsIn K C).isSome = true
  ha : findIn K (.ref C) "__class__" = some (some (.builtin "object.__class__"))
  hn : specialIn K (.builtin "object.__class__") "__get__" = some (some (.builtin "getset_descriptor.__get__"))
  ht : takesIn K (.builtin "object.__class__") = some true
  hm : mroIn K C (.type "object") = some true
def rXis (K : PySem.W.Frag) (C a : Addr) : List V → Hp → VK → Prop := fun xs H Q => ∃ (c : V) (cv : Value) (b : Bool), xs = [.ref a, c] ∧ ClsV c cv ∧ kitOne K (.ref C) cv = some b ∧ Q (.bl b) H
def rXisT (K : PySem.W.Frag) (C a : Addr) : List V → Hp → VK → Prop := fun xs H Q => ∃ (tp : Addr) (cs : List V) (us : List Value) (b : Bool), xs = [.ref a, .ref tp] ∧ H tp = some (.tup cs) ∧ Paired ClsV cs us ∧ kitAny K (.ref C) us = some b ∧ Q (.bl b) H
section
variable {X : Cx} {a C : Addr} {oe : Obj} {pn : List (Addr × Obj)} {d : Option Addr}
theorem inst_caught {pins : List (Addr × Obj)} {σ : L2.St} {H : Hp} {s : Shared} {dd : Addr} {fs : List (Str × V)} (I : Inv (X.suite a ((a, oe) :: pn)) pins σ H s) (hz : Zc (.ref C) (some dd) oe) (hf : ∃ vs, oe.data = .fields vs) (hd : H dd = some (.xd fs)) : ∃ od, InstAt s.heap a oe C (some od) := by
  obtain ⟨ha, _⟩ := I.pin (a, oe) (List.mem_append_left _ List.mem_cons_self)
  obtain ⟨vs, hv⟩ := hf
  have hx : ObjOk X.prog X.w H s.heap dd (.xd fs) := I.hok dd _ hd
  obtain ⟨mA, hns, hr⟩ := hx
  obtain ⟨od, ho, hl⟩ := lookIn_ns hns
  exact ⟨od, ha, hz.1, by unfold notCls; rw [hv] <;> rfl, by rw [hz.2]; exact ho⟩
theorem call_xis (T : XqC X.K C) {dd : Addr} (hz : Zc (.ref C) (some dd) oe) (hf : ∃ vs, oe.data = .fields vs) : CallR (X.suite a ((a, oe) :: pn)) (.builtin "isinstance") (fun xs H Q => (∃ fs, H dd = some (.xd fs)) ∧ (rXis X.K C a xs H Q ∨ rXisT X.K C a xs H Q)) := by
  intro pins s σ H xs us Q I r h
  obtain ⟨⟨fs, hd⟩, h⟩ := h
  obtain ⟨od, J⟩ := inst_caught I hz hf hd
  have Z := fun gt hgt => kitx_exc (K := X.K) (C := C) (x := a) (ox := oe) (od := some od) (gt := gt) T.cl T.xf.ga hgt T.xf.exC T.ha T.hn T.ht T.hm
  rcases h with ⟨c, cv, b, rfl, hcv, e, q⟩ | ⟨tp, cs, us2, b, rfl, hT, k, e, q⟩
  · obtain ⟨u1, u2, rfl, r1, r2⟩ := vals2 r
    cases (show u1 = Value.ref a from r1)
    have ec := hcv.eq r2
    subst ec
    exact kia_one (Z _ T.xf.gg) I.kIn J e (fun z => nomatch z) fun tk => ⟨.bl b, H, I.tok tk, rfl, q⟩
  · obtain ⟨u1, u2, rfl, r1, r2⟩ := vals2 r
    cases (show u1 = Value.ref a from r1)
    cases (show u2 = Value.ref tp from r2)
    obtain ⟨_, its, rv, o, h1, h2, n, h3⟩ := (show ObjOk X.prog X.w H s.heap tp (.tup cs) from I.hok tp _ hT)
    have e3 := ClsV.all k rv
    subst e3
    obtain ⟨oc, od2, dt, sl⟩ := o
    simp only at h2 h3
    subst h2 h3
    exact kia_tup (Z _ T.xf.gg) I.kIn J h1 e (fun z => nomatch z) fun tk => ⟨.bl b, H, I.tok tk, rfl, q⟩
end
section
variable {M : Gm} {W : WX} {X : Cx} {a : Addr} {oe : Obj} {pn : List (Addr × Obj)} {i : Nat} {cls : Value} {d : Option Addr} {x : XD} {e c1 : Expr} {pos p : Pos}
theorem pe_nev {Y : Cx} {e : Expr} : PE Y e (fun _ _ _ => False) := ⟨fun _ _ _ _ _ _ h => h.elim⟩
theorem reps_at {F : Hp} {ds : List D} {fs : List (Str × V)} {j : Nat} {dv : D} {n : Str} (r : reps M F ds (fs.map (·.2))) (h : ds[j]? = some dv) (hn : (fs.map (·.1))[j]? = some n) (hx : n ∉ (fs.map (·.1)).take j) : ∃ v, fs.lookup n = some v ∧ rep M F dv v := by
  induction fs generalizing ds j with
  | nil => simp at hn
  | cons p fs ih =>
    obtain ⟨m, v⟩ := p
    cases ds with
    | nil => simp at h
    | cons d ds =>
      rw [List.map_cons, reps_cons_iff] at r
      cases j with
      | zero =>
        simp at h hn
        subst h hn
        exact ⟨v, by simp [List.lookup], r.1⟩
      | succ j =>
        simp only [List.map_cons, List.getElem?_cons_succ, List.take_succ_cons, List.mem_cons, not_or] at h hn hx
        obtain ⟨w, e1, e2⟩ := ih r.2 h hn hx.2
        refine ⟨w, ?_, e2⟩
        rw [List.lookup_cons]
        have : (n == m) = false := by simpa using hx.1
        rw [this]
        exact e1
/-- e.f -/
theorem z_fld {n : Str} {tab : Nat → Option Nat} (hT : ∀ k j C, tab k = some j → M.G k = some C → XqC X.K C ∧ findIn X.K (.ref C) n = some none ∧ (M.nm k)[j]? = some n ∧ n ∉ (M.nm k).take j) (hz : Zc cls d oe) (hf : ∃ vs, oe.data = .fields vs)
    (he : PE (X.suite a ((a, oe) :: pn)) e (tVar i)) (hb : attributeBase e n X.env (eval e X.env) = eval e X.env := by rfl) : DIz M W (X.suite a ((a, oe) :: pn)) ⟨i, a, cls, d, x⟩ (.Attribute e n pos) (xFldT tab x) := by
  by_cases hc : ∃ j C, tab x.c = some j ∧ M.G x.c = some C
  · obtain ⟨j, C, h1, h2⟩ := hc
    obtain ⟨T, hno, hn, hnt⟩ := hT _ _ _ h1 h2
    refine ⟨_, pe_xf T.xf hno hz hf he hb, fun c F H σ δ Q z ok post => ?_⟩
    obtain ⟨z1, C', k1, k2, k3⟩ := z
    have eC : C' = C := Option.some.inj (k1.symm.trans h2)
    subst eC
    unfold xFldT at post
    rw [h1] at post
    unfold xFld at post
    simp only at post
    refine ⟨_, z1, rfl, k2, ?_⟩
    rcases k3 with k3 | ⟨dd, fs, e1, e2, e3, e4⟩
    · have k3 : x.vs = [] := k3
      rw [k3] at post
      exact post.elim
    · cases q : x.vs[j]? with
      | none => rw [q] at post; exact post.elim
      | some dv =>
        rw [q] at post
        have e3 : fs.map (·.1) = M.nm x.c := e3
        obtain ⟨v, l1, l2⟩ := reps_at e4 q (by rw [e3]; exact hn) (by rw [e3]; exact hnt)
        exact ⟨dd, fs, v, e1, ok.same _ _ e2, l1, post.ok ok l2⟩
  · refine ⟨_, pe_nev, fun c F H σ δ Q z ok post => ?_⟩
    obtain ⟨z1, C', k1, k2, k3⟩ := z
    unfold xFldT at post
    cases q : tab x.c with
    | none => rw [q] at post; exact post.elim
    | some j => exact (hc ⟨j, C', q, k1⟩).elim
/-- isinstance(e, c) -/
theorem z_isi {tab : Nat → Option Bool} {v : V} {u : Value} (hT : ∀ k b C, tab k = some b → M.G k = some C → XqC X.K C ∧ kitOne X.K (.ref C) u = some b) (hz : Zc cls d oe) (hf : ∃ vs, oe.data = .fields vs) (hg : Gl (X.suite a ((a, oe) :: pn)) "isinstance") (hm : X.mg "isinstance" = none)
    (he : PE (X.suite a ((a, oe) :: pn)) e (tVar i)) (hc : PE (X.suite a ((a, oe) :: pn)) c1 (tC v)) (hv : ClsV v u)
    (hs : starEach [e, c1] X.env = (false, eval e X.env) :: starEach [c1] X.env := by rfl) (hs2 : starEach [c1] X.env = (false, eval c1 X.env) :: starEach [] X.env := by rfl) (hpl : (backTo pos (starEach [c1] X.env)).any (·.1) = false := by rfl) :
    DIz M W (X.suite a ((a, oe) :: pn)) ⟨i, a, cls, d, x⟩ (.Call (.Name "isinstance" p) [e, c1] [] pos) (xIs tab x) := by
  by_cases hcc : ∃ b C dd, tab x.c = some b ∧ M.G x.c = some C ∧ cls = .ref C ∧ d = some dd
  · obtain ⟨b, C, dd, h1, h2, h3, h4⟩ := hcc
    subst h3 h4
    obtain ⟨T, hk⟩ := hT _ _ _ h1 h2
    refine ⟨_, pe_callB (call_xis T hz hf) hg hm bt_isinstance (pa_cons he (pa_cons hc pa_nil hs2) hs) (by decide) (by decide) hs hpl, fun c F H σ δ Q z ok post => ?_⟩
    obtain ⟨z1, C', k1, k2, k3⟩ := z
    unfold xIs at post
    rw [h1] at post
    rcases k3 with k3 | ⟨dd', fs, e1, e2, e3, e4⟩
    · have k3 : x.vs = [] := k3
      rw [k3] at post
      exact post.elim
    · cases e1
      split at post
      · rename_i b' _ _ eb
        cases eb
        exact ⟨_, z1, ⟨fs, ok.same _ _ e2⟩, .inl ⟨v, u, b, rfl, hv, hk, post.ok ok (rep_bl' _)⟩⟩
      · exact post.elim
  · refine ⟨_, pe_nev, fun c F H σ δ Q z ok post => ?_⟩
    obtain ⟨z1, C', k1, k2, k3⟩ := z
    unfold xIs at post
    split at post
    · rename_i b _ e1 e2
      rcases k3 with k3 | ⟨dd', fs, y1, _⟩
      · have k3 : x.vs = [] := k3
        rw [k3] at e1; cases e1
      · exact (hcc ⟨_, C', dd', e2, k1, k2, y1⟩).elim
    · exact post.elim
/-- isinstance(e, (c1, ..)) -/
theorem z_isiT {tab : Nat → Option Bool} {es : List Expr} {kt : Nat} {tp : Pos} {vs : List V} {us : List Value} {ct : TA} (hT : ∀ k b C, tab k = some b → M.G k = some C → XqC X.K C ∧ kitAny X.K (.ref C) us = some b) (hz : Zc cls d oe) (hf : ∃ vs, oe.data = .fields vs) (hg : Gl (X.suite a ((a, oe) :: pn)) "isinstance") (hm : X.mg "isinstance" = none)
    (he : PE (X.suite a ((a, oe) :: pn)) e (tVar i)) (hc : PA (X.suite a ((a, oe) :: pn)) es ct) (hct : ∀ σ H (Q : List V → Hp → Prop), Q vs H → ct σ H Q) (hv : Paired ClsV vs us) (hl : vs.length ≤ 100)
    (hs : starEach [e, .Tuple es kt tp] X.env = (false, eval e X.env) :: starEach [.Tuple es kt tp] X.env := by rfl) (hs2 : starEach [.Tuple es kt tp] X.env = (false, eval (.Tuple es kt tp) X.env) :: starEach [] X.env := by rfl) (hpl : (backTo pos (starEach [.Tuple es kt tp] X.env)).any (·.1) = false := by rfl) :
    DIz M W (X.suite a ((a, oe) :: pn)) ⟨i, a, cls, d, x⟩ (.Call (.Name "isinstance" p) [e, .Tuple es kt tp] [] pos) (xIs tab x) := by
  by_cases hcc : ∃ b C dd, tab x.c = some b ∧ M.G x.c = some C ∧ cls = .ref C ∧ d = some dd
  · obtain ⟨b, C, dd, h1, h2, h3, h4⟩ := hcc
    subst h3 h4
    obtain ⟨T, hk⟩ := hT _ _ _ h1 h2
    refine ⟨_, pe_callB (call_xis T hz hf) hg hm bt_isinstance (pa_cons he (pa_cons (pe_tup hc) pa_nil hs2) hs) (by decide) (by decide) hs hpl, fun c F H σ δ Q z ok post => ?_⟩
    obtain ⟨z1, C', k1, k2, k3⟩ := z
    unfold xIs at post
    rw [h1] at post
    rcases k3 with k3 | ⟨dd', fs, e1, e2, e3, e4⟩
    · have k3 : x.vs = [] := k3
      rw [k3] at post
      exact post.elim
    · cases e1
      split at post
      · rename_i b' _ _ eb
        cases eb
        refine ⟨_, z1, hct _ _ _ ⟨Nat.le_trans hl (by rw [sizeLine_eq]; decide), fun r hr => ?_⟩⟩
        have ok2 : Ok c F (upd H r (.tup vs)) σ δ := ok.alloc hr
        exact ⟨⟨fs, ok2.same _ _ e2⟩, .inr ⟨r, vs, us, b, rfl, upd_same, hv, hk, post.ok ok2 (rep_bl' _)⟩⟩
      · exact post.elim
  · refine ⟨_, pe_nev, fun c F H σ δ Q z ok post => ?_⟩
    obtain ⟨z1, C', k1, k2, k3⟩ := z
    unfold xIs at post
    split at post
    · rename_i b _ e1 e2
      rcases k3 with k3 | ⟨dd', fs, y1, _⟩
      · have k3 : x.vs = [] := k3
        rw [k3] at e1; cases e1
      · exact (hcc ⟨_, C', dd', e2, k1, k2, y1⟩).elim
    · exact post.elim
end
/-! ### statements of a suite -/
def PostZ (c : Cn M) (q : Cau) (F : Hp) (r : SR) (E : Ends) : Prop := match r with
  | .nx δ' => ∀ F' H' σ', Same F F' → Zx M q F' σ' → Ok c F' H' σ' δ' → E.nx σ' H'
  | .rt r δ' => ∀ v F' H' σ', Same F F' → Ok c F' H' σ' δ' → repR c F' H' σ' δ' r v → E.rt v H'
  | _ => False
abbrev WN : WX := fun _ _ _ _ => False
def DSz (M : Gm) (X : Cx) (q : Cau) (s : Stmt) (g : FS) : Prop := ∃ t, PS X s t ∧ ∀ (c : Cn M) F H σ δ E, Zx M q F σ → Ok c F H σ δ → PostZ c q F (g δ) E → t E σ H
def DSsz (M : Gm) (X : Cx) (q : Cau) (s : List Stmt) (g : FS) : Prop := ∃ t, PSs X s t ∧ ∀ (c : Cn M) F H σ δ E, Zx M q F σ → Ok c F H σ δ → PostZ c q F (g δ) E → t E σ H
section
variable {M : Gm} {c : Cn M} {X : Cx} {q : Cau} {F F1 H : Hp} {σ : L2.St} {δ : Sl}
theorem PostZ.shift {r : SR} {E : Ends} (h : PostZ c q F r E) (g : Same F F1) : PostZ c q F1 r E := by
  cases r with
  | nx δ' => exact fun F' H' σ' s => h F' H' σ' (g.trans s)
  | rt r δ' => exact fun v F' H' σ' s => h v F' H' σ' (g.trans s)
  | bk δ' => exact h
  | ct δ' => exact h
  | exc x δ' => exact h
  | bad => exact h
theorem zs_one {s : Stmt} {f : FS} (h : DSz M X q s f) : DSsz M X q [s] f := let ⟨t, p, h⟩ := h; ⟨t, pss_one p, h⟩
theorem zs_cons {s : Stmt} {ss : List Stmt} {f g : FS} (h : DSz M X q s f) (h' : DSsz M X q ss g) : DSsz M X q (s :: ss) (sSeq f g) := by
  obtain ⟨t, p, h⟩ := h
  obtain ⟨t', p', h'⟩ := h'
  refine ⟨_, pss_cons p p', fun c F H σ δ E z ok post => h c F H σ δ _ z ok ?_⟩
  unfold sSeq at post
  cases k : f δ with
  | nx δ1 => rw [k] at post; exact fun F' H' σ' s z' ok' => h' c F' H' σ' δ1 E z' ok' (PostZ.shift (show PostZ c q F (g δ1) E from post) s)
  | rt r δ1 => rw [k] at post; exact post
  | bk δ1 => rw [k] at post; exact post
  | ct δ1 => rw [k] at post; exact post
  | exc x δ1 => rw [k] at post; exact post
  | bad => rw [k] at post; exact post
/-- name = e in a suite -/
theorem z_set {j : Nat} {x : Str} {e : Expr} {pos pos' : Pos} {f : FE} (hj : j ≠ q.i) (hN : X.N.Nodup) (hi : X.N[j]? = some x) (hx : Loc X.env.scope x) (he : DEz M WN X q e f) (hs : swapsWith e (some (.Name x pos')) pos.line X.env = pure false := by rfl) (hf : X.fn x = true ∨ X.env.scope.names.lookup x = some .local := by first | exact .inl rfl | exact .inr rfl | assumption) :
    DSz M X q (.Assign [.Name x pos'] e pos) (sAsg f (tName j)) := by
  obtain ⟨t, p, he⟩ := he
  refine ⟨_, ps_set hN hi hx p hs hf, fun c F H σ δ E z ok post => he c F H σ δ _ z ok ?_⟩
  unfold sAsg at post
  cases k : f δ with
  | bad => rw [k] at post; exact post
  | exc y δ1 => rw [k] at post; exact post.elim
  | ok r δ1 =>
    rw [k] at post
    have post : PostZ c q F (tName j r δ1) E := post
    intro v F' H' s ok' rr
    have z' : Zx M q F' (σ.set j (some v)) := by
      refine ⟨?_, (z.mono s).2⟩
      rw [List.getElem?_set_ne hj]; exact z.1
    unfold tName at post
    cases r with
    | imm d => exact post F' H' _ s z' (ok'.setI j rr)
    | own o => exact post F' H' _ s z' (ok'.setO j rr)
    | brw o => exact post.elim
theorem z_ret {e : Expr} {pos : Pos} {f : FE} (he : DEz M WN X q e f) : DSz M X q (.Return (some e) pos) (sRet f) := by
  obtain ⟨t, p, he⟩ := he
  refine ⟨_, ps_ret p, fun c F H σ δ E z ok post => he c F H σ δ _ z ok ?_⟩
  unfold sRet at post
  cases k : f δ with
  | bad => rw [k] at post; exact post
  | exc y δ1 => rw [k] at post; exact post.elim
  | ok r δ1 => rw [k] at post; exact fun v F' H' s ok' rr => post v F' H' σ s ok' rr
end
/-! ### try: several named clauses -/
/-- the clauses' wishes, all under one name (slot i) -/
def wAsL (K : PySem.W.Frag) (i : Nat) (Wout : WX) (D : Ends) : List (Value × (Addr → Value → Option Addr → TS)) → WX
  | [] => Wout
  | (c, ts) :: r => fun cls d σ H => ∃ b, exmOne K cls c = some b ∧ (b = true → ∀ a, H a = none → ts a cls d { nx := fun σ' H' => D.nx (σ'.set i none) H', rt := D.rt, bk := fun σ' H' => D.bk (σ'.set i none) H', ct := fun σ' H' => D.ct (σ'.set i none) H' } (σ.set i (some (.ref a))) H) ∧ (b = false → wAsL K i Wout D r cls d σ H)
inductive HdsA (X : Cx) (n : Str) : List ExceptHandler → List (Value × (Addr → Value → Option Addr → TS)) → Prop
  | nil : HdsA X n [] []
  | cons {x : Str} {c : Value} {ts : Addr → Value → Option Addr → TS} {b₀ : Stmt} {suite : List Stmt} {np pos' : Pos} {hds : List ExceptHandler} {l : List (Value × (Addr → Value → Option Addr → TS))} (hc : Names X x c)
      (hsu : ∀ (a : Addr) (oe : Obj) (cls : Value) (d : Option Addr) (pn : List (Addr × Obj)), Zc cls d oe → (∃ vs, oe.data = .fields vs) → PSs (X.suite a ((a, oe) :: pn)) (b₀ :: suite) (ts a cls d)) (r : HdsA X n hds l) :
      HdsA X n (.ExceptHandler (some (.Name x np)) (some n) (b₀ :: suite) pos' :: hds) ((c, ts) :: l)
section
variable {X : Cx} {n : Str} {i : Nat} {body : List Stmt} {h₀ : ExceptHandler} {hds : List ExceptHandler} {l : List (Value × (Addr → Value → Option Addr → TS))} {pos : Pos} {tb : WX → TS} {Wout : WX}
theorem ps_try_asL (hs : X.stack = X.env :: X.outer) (hf : X.env.frame = some X.env.locals) (hN : X.N.Nodup) (hi : X.N[i]? = some n) (hln : X.env.kindOf n = some .local) (tk : Takes X Wout)
    (hb : ∀ (W : WX) (pn : List (Addr × Obj)) (xe : Value → Shared → Prop), Takes (X.tr pn xe) W → PassesOwn (model X.prog X.w) X.A X.env xe → PSs (X.tr pn xe) body (tb W))
    (hh : HdsA X n (h₀ :: hds) l) : PS X (.Try body (h₀ :: hds) [] [] pos) (fun D σ H => tb (wAsL X.K i Wout D l) D σ H) := by
  refine ⟨fun pins s σ H D I h => ?_⟩
  have ok := I.ok
  have hloc : Loc X.env.scope n := .inl hln
  have hfr : X.A.frames = some (X.env :: X.outer) := by rw [ok.frames, hs]
  refine wpAny_Try_except (wpAny_mono ((hb (wAsL X.K i Wout D l) (X.pn ++ pins) (fun e s1 => wpAny (model X.prog X.w) X.A (noteFrame e X.env) (fun _ s2 => wpAny (model X.prog X.w) X.A (setFlight e none) (fun _ s3 =>
    wpAny (model X.prog X.w) X.A (handleBy e X.env (h₀ :: hds)) (SP X pins D) X.xe s3) X.xe s2) X.xe s1) (fun u s' xx => ?_) PassesOwn.looking).run [] s σ H D (I.toTry _) h) (fun f s1 hsp => ?_) (fun e s1 he => he))
  · obtain ⟨a, B, sI, pins', σ', H', cls, d, rfl, J', nb, up, sky, na, os, ag, w⟩ := xx
    have J : Inv X pins σ' H' sI := J'.ofTry ok
    have sky' : Sky B (X.env :: X.outer) a (Zc cls d) X.env.locals s'.heap := by rw [← hs]; exact sky
    show wpAny (model X.prog X.w) X.A (noteFrame (.ref a) X.env) _ _ _
    refine Sky.land Zc.steady hfr hf sky' fun h3 fl3 up3 => ?_
    have J3 : Inv X pins σ' H' { s' with heap := h3 } := J.landed nb fl3.1 (up.trans up3) os ag
    obtain ⟨oe3, vs3, he3, hz3, hd3⟩ := fl3.there
    have nfr : a ∉ frs (X.env :: X.outer) := fun hm => by
      obtain ⟨_, o', e', hnf⟩ := fl3.2.2.1.mem hm
      rw [he3] at e'
      cases e'
      exact hnf _ hd3
    have nL : a ≠ X.env.locals := fun z => nfr (List.mem_filterMap.mpr ⟨X.env, List.mem_cons_self, by rw [hf, z]⟩)
    have nF : a ∉ X.fs := fun hm => by
      obtain ⟨e, he, k⟩ := List.mem_filterMap.mp hm
      exact nfr (List.mem_filterMap.mpr ⟨e, List.mem_cons_of_mem _ he, k⟩)
    have S3 := J3.suite he3 hd3 na nL nF
    have go : ∀ {hds' : List ExceptHandler} {l' : List (Value × (Addr → Value → Option Addr → TS))}, HdsA X n hds' l' → wAsL X.K i Wout D l' cls d σ' H' →
        wpAny (model X.prog X.w) X.A (handleBy (.ref a) X.env hds') (SP X pins D) X.xe { s' with heap := h3 } := by
      intro hds' l' hk
      induction hk with
      | nil =>
        intro w
        refine wpAny_handleBy_nil ?_
        obtain ⟨k1, k2, k3, oe, vs, T, oT, ts', he, hz, hd, h1, hr⟩ := id fl3
        unfold PySem.passOn
        refine wpAny_bind (wpAny_field he hd h1 ?_)
        rw [if_neg (show ¬ ((Value.ref T == Value.none) = true) from by simp)]
        have fin : wpAny (model X.prog X.w) X.A (setFlight (.ref a) X.env.frame) (fun _ s4 => wpAny (model X.prog X.w) X.A (throw (.ref a) : Sem Flow) (SP X pins D) X.xe s4) X.xe { s' with heap := h3 } := by
          rw [hf]
          refine HandSPX.setFlight_upZ fl3 fun h4 hh4 up4 => wpAny_throw (tk _ _ ?_)
          exact ⟨a, B, sI, pins, σ', H', cls, d, rfl, J, nb, (up.trans up3).trans up4, .inr (.inr (by rw [hs]; exact hh4)), na, os, ag, w⟩
        first
          | exact wpAny_bind (wpAny_pure (wpAny_bind fin))
          | exact wpAny_bind fin
      | @cons x c ts b₀ suite np pos' hds2 l2 hc hsu r ih =>
        intro w
        obtain ⟨b, hb1, hyes, hno⟩ := w
        refine wpAny_handleBy_cons (codeAny_handlers_test ?_) (by intro k; cases k)
        have LT : Looks (model X.prog X.w) h3 (typeOf (.ref a)) cls := fun A Q E s k q => wpAny_typeOf_ref (k _ _ he3) (by rw [hz3.1]; exact q)
        have LM := exm_one (M := model X.prog X.w) (J3.kIn) LT hb1
        have test : ∀ {Q : Value → Shared → Prop} {E : Value → Shared → Prop}, Q c { s' with heap := h3 } → wpAny (model X.prog X.w) (X.A.mark (some (.ref a))) (eval (.Name x np) X.env) Q E { s' with heap := h3 } := fun {Q E} k => by
          obtain ⟨hg, hdbg, hm | ⟨hm, hv, hnn⟩⟩ := hc
          · exact ld_glob (X := X.suite a ((a, oe3) :: (X.pn ++ pins))) S3 hg hm k hdbg
          · exact ld_blt (X := X.suite a ((a, oe3) :: (X.pn ++ pins))) S3 hg hm hv k hnn hdbg
        refine test (LM.here ?_)
        cases b with
        | true =>
          refine codeAny_handlers_suite_as ?_
          refine HandSPX.lands_againZ fl3 fun h4 fl4 up4 => ?_
          have J4 : Inv X pins σ' H' { s' with heap := h4 } := J.landed nb fl4.1 ((up.trans up3).trans up4) os ag
          obtain ⟨oe4, vs4, he4, hz4, hd4⟩ := fl4.there
          have S4 := J4.suite he4 hd4 na nL nF
          refine store_ok (X := X.suite a ((a, oe4) :: (X.pn ++ pins))) (v := .ref a) S4 hN hi hloc rfl (fun s5 S5 => ?_) (.inr hln)
          refine wpAny_mono ((hsu a oe4 cls d (X.pn ++ pins) hz4 ⟨_, hd4⟩).run [] s5 _ H' _ S5 (hyes rfl a na)) (fun f s6 hsp => ?_) (fun _ _ z => False.elim z)
          have end_ : ∀ {σ6 : L2.St} {H6 : Hp} {Q : Shared → Prop}, Inv (X.suite a ((a, oe4) :: (X.pn ++ pins))) [] σ6 H6 s6 → (∀ s7, Inv X pins (σ6.set i none) H6 s7 → Q s7) →
              wpAny (model X.prog X.w) X.A (do bindName X.env n .none; unbindBehindTheSuite X.env n pos') (fun _ s7 => Q s7) X.xe s6 := fun {σ6 H6 Q} S6 hq => gone_ok (S6.unsuite ok) hN hi hln hq
          cases f with
          | next => obtain ⟨σ6, H6, S6, q6⟩ := hsp; exact end_ S6 fun s7 J7 => ⟨_, _, J7, q6⟩
          | brk => obtain ⟨σ6, H6, S6, q6⟩ := hsp; exact end_ S6 fun s7 J7 => ⟨_, _, J7, q6⟩
          | cont => obtain ⟨σ6, H6, S6, q6⟩ := hsp; exact end_ S6 fun s7 J7 => ⟨_, _, J7, q6⟩
          | ret u => obtain ⟨v6, σ6, H6, S6, r6, q6⟩ := hsp; exact end_ S6 fun s7 J7 => ⟨_, _, _, J7, r6, q6⟩
        | false =>
          show wpAny _ X.A (handleBy (.ref a) X.env hds2) _ _ _
          exact ih (hno rfl)
    exact go hh w
  · cases f with
    | next => obtain ⟨σ', H', J', k⟩ := hsp; exact wpAny_execs_nil ⟨σ', H', J'.ofTry ok, k⟩
    | brk => obtain ⟨σ', H', J', k⟩ := hsp; exact ⟨σ', H', J'.ofTry ok, k⟩
    | cont => obtain ⟨σ', H', J', k⟩ := hsp; exact ⟨σ', H', J'.ofTry ok, k⟩
    | ret u => obtain ⟨v, σ', H', J', r, k⟩ := hsp; exact ⟨v, σ', H', J'.ofTry ok, r, k⟩
end
/-! ### try, by mirrors -/
def sTry (i : Nat) (gb : FS) (hs : XD → Option FS) : FS := fun δ => match gb δ with
  | .exc x δ1 => (match hs x with
    | some g => if i < δ1.length then (match g (δ1.set i none) with
      | .nx δ2 => .nx (δ2.set i none)
      | .rt r δ2 => .rt r δ2
      | _ => .bad) else .bad
    | none => .exc x δ1)
  | r => r
section
variable {M : Gm} {c : Cn M} {X : Cx} {q : Cau} {F H : Hp} {σ : L2.St} {δ : Sl}
theorem Ok.put (ok : Ok c F H σ δ) (i : Nat) (o : Option V) : Ok c F H (σ.set i o) (δ.set i none) where
  same := ok.same
  grow := ok.grow
  nofz := ok.nofz
  kept := ok.kept
  ioh := ok.ioh
  tb := ok.tb
  len := by simp [ok.len]
  slot := fun j r e => by
    rcases getElem?_set_some e with ⟨rfl, e1, _⟩ | ⟨hn, e1⟩
    · cases e1
    · rw [List.getElem?_set_ne hn]; exact ok.slot j r e1
  dist := fun j k r1 r2 w hjk e1 e2 m1 m2 s1 s2 => by
    rcases getElem?_set_some e1 with ⟨rfl, z, _⟩ | ⟨hn, q1⟩
    · cases z
    · rcases getElem?_set_some e2 with ⟨rfl, z, _⟩ | ⟨hn2, q2⟩
      · cases z
      · rw [List.getElem?_set_ne hn] at s1
        rw [List.getElem?_set_ne hn2] at s2
        exact ok.dist j k r1 r2 w hjk q1 q2 m1 m2 s1 s2
def hNil : XD → Option FS := fun _ => none
def hCons (tab : Nat → Option Bool) (g : XD → FS) (hs : XD → Option FS) : XD → Option FS := fun y => match tab y.c with
  | some true => some (g y)
  | some false => hs y
  | none => some fun _ => .bad
/-- the clauses and what they do of the exceptions, by their classes -/
inductive ClA (M : Gm) (X : Cx) (n : Str) (i : Nat) : List ExceptHandler → (XD → Option FS) → Prop
  | nil : ClA M X n i [] hNil
  | cons {x : Str} {C0 : Value} {tab : Nat → Option Bool} {g : XD → FS} {b₀ : Stmt} {suite : List Stmt} {np pos' : Pos} {hds : List ExceptHandler} {hs : XD → Option FS} (hc : Names X x C0) (hT : ∀ k b C, tab k = some b → M.G k = some C → exmOne X.K (.ref C) C0 = some b)
      (hsu : ∀ (a : Addr) (oe : Obj) (cls : Value) (d : Option Addr) (pn : List (Addr × Obj)) (y : XD), Zc cls d oe → (∃ vs, oe.data = .fields vs) → DSsz M (X.suite a ((a, oe) :: pn)) ⟨i, a, cls, d, y⟩ (b₀ :: suite) (g y)) (r : ClA M X n i hds hs) :
      ClA M X n i (.ExceptHandler (some (.Name x np)) (some n) (b₀ :: suite) pos' :: hds) (hCons tab g hs)
theorem clA_ok {n : Str} {i : Nat} {hds : List ExceptHandler} {hs : XD → Option FS} (h : ClA M X n i hds hs) : ∃ l, HdsA X n hds l ∧ ∀ (c : Cn M) (Wout : WX) (D : Ends) (x : XD) (δ1 : Sl) (cls : Value) (d : Option Addr) (F H : Hp) (σ : L2.St), Ok c F H σ δ1 → xAt M F x cls d H →
    (match hs x with
      | some g => i < δ1.length ∧ PostS c Wout F (match g (δ1.set i none) with | .nx δ2 => .nx (δ2.set i none) | .rt r δ2 => .rt r δ2 | _ => .bad) D
      | none => Wout cls d σ H) → wAsL X.K i Wout D l cls d σ H := by
  induction h with
  | nil => exact ⟨[], .nil, fun c Wout D x δ1 cls d F H σ ok xa k => k⟩
  | @cons x C0 tab g b₀ suite np pos' hds hs hc hT hsu r ih =>
    obtain ⟨l, hl, ih⟩ := ih
    refine ⟨(C0, fun a cls d D σ H => ∃ y, ∀ oe pn (hz : Zc cls d oe) (hf : ∃ vs, oe.data = .fields vs), (hsu a oe cls d pn y hz hf).choose D σ H) :: l, .cons hc (fun a oe cls d pn hz hf => ⟨fun pins s σ H D I h => ?_⟩) hl, fun c Wout D y δ1 cls d F H σ ok xa k => ?_⟩
    · obtain ⟨y, h⟩ := h
      exact (hsu a oe cls d pn y hz hf).choose_spec.1.run pins s σ H D I (h oe pn hz hf)
    · obtain ⟨C, e1, e2, e3⟩ := id xa
      unfold hCons at k
      cases q : tab y.c with
      | none =>
        rw [q] at k
        exact k.2.elim
      | some b =>
        refine ⟨b, by rw [e2]; exact hT _ _ _ q e1, fun hb a ha => ⟨y, fun oe pn hz hf => ?_⟩, fun hb => ?_⟩
        · subst hb
          rw [q] at k
          obtain ⟨hi, k⟩ := k
          refine (hsu a oe cls d pn y hz hf).choose_spec.2 c F H _ (δ1.set i none) _ ⟨?_, xAt_mono (Same.refl _) xa⟩ (ok.put i _) ?_
          · show (σ.set i _)[i]? = _
            rw [List.getElem?_set_self (by rw [ok.len]; exact hi)]
          · cases w : g y (δ1.set i none) with
            | nx δ2 => rw [w] at k; exact fun F' H' σ' s z' ok' => k F' H' _ s (ok'.put i none)
            | rt r δ2 => rw [w] at k; exact fun v F' H' σ' s ok' rr => k v F' H' σ' s ok' rr
            | bk δ2 => rw [w] at k; exact k
            | ct δ2 => rw [w] at k; exact k
            | exc z δ2 => rw [w] at k; exact k
            | bad => rw [w] at k; exact k
        · subst hb
          rw [q] at k
          exact ih c Wout D y δ1 cls d F H σ ok xa k
theorem ds_try {W : WX} {n : Str} {i : Nat} {body : List Stmt} {h₀ : ExceptHandler} {hds : List ExceptHandler} {pos : Pos} {gb : FS} {hs : XD → Option FS} (hst : X.stack = X.env :: X.outer) (hf : X.env.frame = some X.env.locals) (hN : X.N.Nodup) (hi : X.N[i]? = some n) (hln : X.env.kindOf n = some .local) (tk : Takes X W)
    (hb : ∀ (W : WX) (pn : List (Addr × Obj)) (xe : Value → Shared → Prop), Takes (X.tr pn xe) W → PassesOwn (model X.prog X.w) X.A X.env xe → DSs M W (X.tr pn xe) body gb) (hh : ClA M X n i (h₀ :: hds) hs) : DS M W X (.Try body (h₀ :: hds) [] [] pos) (sTry i gb hs) := by
  obtain ⟨l, hl, key⟩ := clA_ok hh
  refine ⟨_, ps_try_asL (tb := fun W D σ H => ∀ pn xe (h1 : Takes (X.tr pn xe) W) (h2 : PassesOwn (model X.prog X.w) X.A X.env xe), (hb W pn xe h1 h2).choose D σ H) hst hf hN hi hln tk (fun W pn xe h1 h2 => ⟨fun pins s σ H D I h => ?_⟩) hl, fun c F H σ δ E ok post pn xe h1 h2 => ?_⟩
  · exact (hb W pn xe h1 h2).choose_spec.1.run pins s σ H D I (h pn xe h1 h2)
  · refine (hb _ pn xe h1 h2).choose_spec.2 c F H σ δ E ok ?_
    unfold sTry at post
    cases w : gb δ with
    | nx δ1 => rw [w] at post; exact post
    | rt r δ1 => rw [w] at post; exact post
    | bk δ1 => rw [w] at post; exact post
    | ct δ1 => rw [w] at post; exact post
    | bad => rw [w] at post; exact post
    | exc x δ1 =>
      rw [w] at post
      intro cls d F' H' σ' s ok' xa
      refine key c W E x δ1 cls d F' H' σ' ok' xa ?_
      have post : PostS c W F (match hs x with | some g => if i < δ1.length then (match g (δ1.set i none) with | .nx δ2 => .nx (δ2.set i none) | .rt r δ2 => .rt r δ2 | _ => .bad) else .bad | none => .exc x δ1) E := post
      cases v : hs x with
      | none => rw [v] at post; exact post cls d F' H' σ' s ok' xa
      | some g =>
        rw [v] at post
        by_cases hil : i < δ1.length
        · simp only [if_pos hil] at post
          exact ⟨hil, PostS.shift post s⟩
        · simp only [if_neg hil] at post
          exact post.elim
end
end
end TS

set_option maxRecDepth 100000
set_option maxHeartbeats 4000000
/-! TSj: the head's facts about exceptions. -/
namespace TS
open PySem L2 PySem.W
noncomputable section
section
variable {K : PySem.W.Frag}
theorem exc_ok {x : Str} {B : String} (hB : Bas B) (c : (Fx.exc x B).ok K = true) : OxC K (He.ga K x) ∧ XqC K (He.ga K x) ∧ findIn K (.ref (He.ga K x)) "__init__" = some (some (.ref (He.ma K (He.ga K x) "__init__"))) ∧ typeIn K (.ref (He.ma K (He.ga K x) "__init__")) = some (.type "function") := by
  obtain ⟨c1, c⟩ := He.ba c
  obtain ⟨c2, c⟩ := He.ba c
  obtain ⟨c3, c⟩ := He.ba c
  obtain ⟨c4, c⟩ := He.ba c
  obtain ⟨c5, c⟩ := He.ba c
  obtain ⟨c6, c⟩ := He.ba c
  obtain ⟨c7, c⟩ := He.ba c
  obtain ⟨c8, c⟩ := He.ba c
  obtain ⟨c9, c⟩ := He.ba c
  obtain ⟨c10, c⟩ := He.ba c
  obtain ⟨c11, c⟩ := He.ba c
  obtain ⟨c12, c⟩ := He.ba c
  obtain ⟨c13, c⟩ := He.ba c
  obtain ⟨c14, c15⟩ := He.ba c
  obtain ⟨cd, k1, k2⟩ := any_some c3
  exact ⟨⟨⟨B, hB, c1, c2⟩, ⟨cd, k1, k2⟩, He.eqO_ok c4, of_decide_eq_true c5, of_decide_eq_true c6, c7⟩,
    ⟨⟨He.eqO_ok c10, He.eqO_ok c11, of_decide_eq_true c5, c3⟩, by rw [k1]; rfl, He.eqO_ok c12, He.eqO_ok c13, of_decide_eq_true c14, of_decide_eq_true c15⟩, He.eqO_ok c8, of_decide_eq_true c9⟩
theorem exm_ok {x y : Str} {b : Bool} (c : (Fx.exm x y b).ok K = true) : exmOne K (.ref (He.ga K x)) (.ref (He.ga K y)) = some b := of_decide_eq_true c
end
theorem kb_ix0 {K : PySem.W.Frag} {x qual : Str} {params : Arguments} {body : List Stmt} {scope : Scope} {kws : List (Str × V)} {f : Addr} {fd : FuncData} {ps ks : List Str} {n : Nat} {ix : List Nat} (Fd : FunD K x qual params body scope [] kws f fd)
    (h : ∀ (kV doc pm : Value) (an : Option Addr) (cdv ct : Value) (us ws : List Value), us.length = n → ws.length = ks.length → bindArgs (PySem.W.fnOf x qual params body scope .none kV doc pm an cdv ct) ⟨us, ks.zip ws⟩ = pure (ps.zip (pick n ix .none us ws))) : KBn K fd ps n ks (pick n ix .none) (pick n ix .non) := by
  obtain ⟨oc, od, dV, kV, doc, pm, an, cdv, ct, osl, rfl, lk, hcd, hD, hK⟩ := Fd.ex
  rcases hD with ⟨_, rfl⟩ | ⟨e, _⟩
  · exact ⟨fun s us ws _ l1 l2 => .of_eq (h kV doc pm an cdv ct us ws l1 l2), fun r rz => r.append (vals_ix rz ix)⟩
  · exact absurd rfl e
end
end TS

set_option maxRecDepth 100000
set_option maxHeartbeats 4000000
/-! TSk: len(set(list of ints)), with repeats. -/
namespace TS
open PySem PySem.Spec PyProof.Rows L2
noncomputable section
def tLenSetJ (K : PySem.W.Frag) (ta : TE) : TE := fun σ H Q => ta σ H fun x H1 => ∃ (l : Addr) (ns : List Int), x = .ref l ∧ SqL K H1 l (ns.map V.int) ∧ ns.length ≤ 4000 ∧ Q (.int (ns.eraseDups.length : Nat)) H1
theorem pe_lenSetJ {X : Cx} {a : Expr} {ta : TE} {p p2 q pos : Pos} (hg : Gl X "len") (hm : X.mg "len" = none) (hg2 : Gl X "set") (hm2 : X.mg "set" = none) (ha : PE X a ta) (hc : X.calm = true := by rfl)
    (na : starEach [a] X.env = (false, eval a X.env) :: starEach [] X.env := by rfl) : PE X (.Call (.Name "len" p) [.Call (.Name "set" p2) [a] [] q] [] pos) (tLenSetJ X.K ta) := by
  refine ⟨fun pins s σ H Q I h => ?_⟩
  refine Call_ (ld_blt I hg hm boot_len ?_)
  refine PyProof.Rows.callWith_builtin1 (PyProof.Rows.args_cons ?_ rfl) rfl rfl
  refine Call_ (ld_blt I hg2 hm2 boot_set ?_)
  refine PyProof.Rows.callWith_type1 (PyProof.Rows.args_cons (thn (ha.run pins s σ H _ I h) fun v s1 ⟨x, H1, I1, r1, q1⟩ => PyProof.Rows.args_nil ?_) na) na rfl
  obtain ⟨l, ns, rfl, hq, hl, q1⟩ := q1
  cases r1
  obtain ⟨its, r, pl, hz⟩ := I1.list hq
  have hlen : its.toArray.size = ns.length := by rw [List.size_toArray, ← r.length, List.length_map]
  refine call_set_list (I1.ok.hd hc) pl.isList (by simpa using RZ.intsAre_vals r) (by rw [hlen]; unfold scanBound; omega) fun h' tk hS hk => ?_
  refine PyProof.Rows.args_nil ?_
  rw [hlen, PySem.W.oss_met, PySem.W.oss_dups] at hS
  obtain ⟨o, es, ep, t, ho, hex, hd, _, _, _, hf, hn⟩ := hS
  have I2 : Inv X pins σ H1 { s1 with heap := h', toks := tk } := I1.kept fun b o e => hk b o (Heap.lt_size e) e
  have hle : ns.eraseDups.length ≤ ns.length := by rw [← PySem.W.oss_dups]; exact PySem.W.oss_len ns
  exact call_len_set ho hex hd hf (by rw [hn] <;> omega) ⟨.int ns.eraseDups.length, H1, I2.tok _, ⟨_, by rw [hn]⟩, q1⟩
def fLenSet (f : FD) : FD := fun δ => (f δ).bind fun d δ => match d with
  | .lst ds => (match intsD ds with
    | some ns => if ns.length ≤ 4000 then .ok (.int (ns.eraseDups.length : Nat)) δ else .bad
    | none => .bad)
  | _ => .bad
theorem di_lenSet {M : Gm} {W : WX} {X : Cx} {a : Expr} {p p2 q pos : Pos} {f : FD} (hc : X.calm = true) (hg : Gl X "len") (hm : X.mg "len" = none) (hg2 : Gl X "set") (hm2 : X.mg "set" = none) (h : DP M W X a f) (hK : X.K = M.K := by rfl)
    (na : starEach [a] X.env = (false, eval a X.env) :: starEach [] X.env := by rfl) : DI M W X (.Call (.Name "len" p) [.Call (.Name "set" p2) [a] [] q] [] pos) (fLenSet f) := by
  obtain ⟨t, pp, h⟩ := h
  refine ⟨_, pe_lenSetJ hg hm hg2 hm2 pp hc na, fun c F H σ δ Q ok post => h c F H σ δ _ ok (Post.bind post fun d δ1 v F1 H1 _ s1 ok1 r post => ?_)⟩
  split at post
  · split at post
    · rename_i ds ns hn
      split at post
      · rename_i hl
        obtain ⟨a, vs, rfl, h2, h3⟩ := prep_lst ok1.same r
        have ev := intsD_v h3 hn
        subst ev
        exact ⟨a, ns, rfl, by rw [hK]; exact SqL.of h2, hl, post.ok ok1 (rep_int' _)⟩
      · exact post.elim
    · exact post.elim
  · exact post.elim
end
end TS

set_option maxRecDepth 100000
set_option maxHeartbeats 4000000
/-! TSl: three values at once, some of them new objects. -/
namespace TS
open PySem L2
noncomputable section
abbrev FX := Sl → Res (List R)
def fxNil : FX := fun δ => .ok [] δ
def fxCons (f : FE) (g : FX) : FX := fun δ => (f δ).bind fun r δ1 => match r with
  | .brw _ => .bad
  | r => (g δ1).bind fun rs δ2 => .ok (r :: rs) δ2
def repXs {M : Gm} (c : Cn M) (F H : Hp) (σ : St) (δ : Sl) : List R → List V → Prop
  | [], vs => vs = []
  | r :: rs, vs => ∃ v ws, vs = v :: ws ∧ repR c F H σ δ r v ∧ repXs c F H σ δ rs ws ∧ (r.mu = true → ∀ (i : Nat) (r' : R), rs[i]? = some r' → r'.mu = true → ws[i]? ≠ some v)
def DX (M : Gm) (W : WX) (X : Cx) (es : List Expr) (f : FX) : Prop := ∃ t, PA X es t ∧ ∀ (c : Cn M) F H σ δ Q, Ok c F H σ δ → Post c W F σ (fun F H δ rs vs => repXs c F H σ δ rs vs) (f δ) Q → t σ H Q
section
variable {M : Gm} {c : Cn M} {W : WX} {X : Cx} {F H : Hp} {σ : St} {δ : Sl}
theorem dx_nil : DX M W X [] fxNil := ⟨_, pa_nil, fun c F H σ δ Q ok post => post.ok ok rfl⟩
theorem repXs_unguard {a : Addr} {u : HO} {hn : NT u} (h0 : c.H0 a = none) : ∀ {rs : List R} {vs : List V}, repXs (c.guard a u hn) F H σ δ rs vs → repXs c F H σ δ rs vs ∧ ∀ (i : Nat) (r' : R), rs[i]? = some r' → r'.mu = true → vs[i]? ≠ some (V.ref a)
  | [], vs, h => ⟨h, fun i r' e => by simp at e⟩
  | r :: rs, vs, h => by
    obtain ⟨v, ws, rfl, h1, h2, h3⟩ := h
    obtain ⟨k1, k2⟩ := repXs_unguard h0 h2
    have hr : repR c F H σ δ r v ∧ (r.mu = true → v ≠ V.ref a) := by
      cases r with
      | imm d => exact ⟨h1, fun z => by cases z⟩
      | brw o => exact h1.elim
      | own o =>
        obtain ⟨b, rfl, l1, l2, l3, l4⟩ := h1
        have hba : b ≠ a := fun z => by
          have : (c.guard a u hn).H0 a = some u := if_pos rfl
          rw [z, this] at l2; cases l2
        have l2' : c.H0 b = none := by
          have : (c.guard a u hn).H0 b = c.H0 b := if_neg hba
          rw [← this]; exact l2
        exact ⟨⟨b, rfl, l1, l2', l3, l4⟩, fun _ z => by cases z; exact hba rfl⟩
    refine ⟨⟨v, ws, rfl, hr.1, k1, h3⟩, fun i r' e m => ?_⟩
    cases i with
    | zero =>
      simp at e
      subst e
      intro z
      simp at z
      exact hr.2 m z
    | succ i => exact k2 i r' (by simpa using e) m
theorem dx_cons {a : Expr} {es : List Expr} {f : FE} {g : FX} (ha : DE M W X a f) (hb : DX M W X es g) (h1 : starEach (a :: es) X.env = (false, eval a X.env) :: starEach es X.env := by rfl) : DX M W X (a :: es) (fxCons f g) := by
  obtain ⟨t, p, ha⟩ := ha
  obtain ⟨t', p', hb⟩ := hb
  refine ⟨_, pa_cons p p' h1, fun c F H σ δ Q ok post => ha c F H σ δ _ ok (Post.bind post fun r δ1 v F1 H1 _ s1 ok1 rr post => ?_)⟩
  cases r with
  | brw o => exact post.elim
  | imm d =>
    refine hb c F1 H1 σ δ1 _ ok1 (Post.bind post fun rs δ2 ws F2 H2 _ s2 ok2 rr' post => ?_)
    exact post.ok ok2 ⟨v, ws, rfl, rep_mono s2 _ _ rr, rr', fun z => by cases z⟩
  | own o =>
    obtain ⟨a, rfl, k1, k2, k3, k4⟩ := rr
    obtain ⟨u, hu, hn⟩ := obAt_nt k3
    have okg := ok1.guard k1 k2 hu hn k4
    have f0 : c.F0 a = none := by
      cases z : c.F0 a with
      | none => rfl
      | some q => rw [ok1.grow a q z] at k1; cases k1
    have un : ∀ {F2 H2 : Hp} {δ2 : Sl}, Same F1 F2 → Ok (c.guard a u hn) F2 H2 σ δ2 → Ok c F2 H2 σ δ2 ∧ repR c F2 H2 σ δ2 (.own o) (.ref a) := fun {F2 H2 δ2} g ok2 => by
      obtain ⟨q1, q2, q3, q4⟩ := ok2.unguard k2
      exact ⟨q1, a, rfl, q2 f0, k2, obAt_mono g (q3.trans hu.symm) k3, q4⟩
    refine hb (c.guard a u hn) F1 H1 σ δ1 _ okg ?_
    cases q : g δ1 with
    | bad => simp only [q] at post; exact post
    | exc x δ2 => simp only [q] at post; exact fun cls d F2 H2 g ok2 xa => post cls d F2 H2 g (un g ok2).1 xa
    | ok rs δ2 =>
      simp only [q] at post
      intro ws F2 H2 s2 ok2 rr'
      obtain ⟨ok3, ro⟩ := un s2 ok2
      obtain ⟨l1, l2⟩ := repXs_unguard k2 rr'
      exact post _ F2 H2 s2 ok3 ⟨_, ws, rfl, ro, l1, fun _ => l2⟩
theorem Ok.setR (ok : Ok c F H σ δ) {r : R} {v : V} (i : Nat) (h : repR c F H σ δ r v) : Ok c F H (σ.set i (some v)) (δ.set i (some r)) := by
  cases r with
  | imm d => exact ok.setI i h
  | own o => exact ok.setO i h
  | brw o => exact h.elim
theorem repR_setR {r r' : R} {v w : V} {i : Nat} (hl : i < σ.length) (h : repR c F H σ δ r' w) (hd : r.mu = true → r'.mu = true → w ≠ v) : repR c F H (σ.set i (some v)) (δ.set i (some r)) r' w := by
  cases r' with
  | imm d' => exact h
  | brw o => exact h
  | own o =>
    obtain ⟨a, rfl, h1, h2, h3, h4⟩ := h
    refine ⟨a, rfl, h1, h2, h3, fun k r0 e m => ?_⟩
    rcases getElem?_set_some e with ⟨rfl, z, _⟩ | ⟨hn, e⟩
    · cases z
      rw [List.getElem?_set_self hl]
      intro q
      exact hd m rfl (Option.some.inj (Option.some.inj q)).symm
    · rw [List.getElem?_set_ne hn]; exact h4 k r0 e m
def sPar3E (i j l : Nat) (f : FX) : FS := fun δ => (f δ).bindS fun rs δ1 => match rs with
  | [a, b, c] => if i < δ1.length ∧ j < δ1.length then .nx (((δ1.set i (some a)).set j (some b)).set l (some c)) else .bad
  | _ => .bad
theorem ds_par3E {i j l : Nat} {x y z : Str} {a b c : Expr} {fa : FX} {px py pz pt pos : Pos} {kt k2 pt2} (hc : X.calm = true) (hN : X.N.Nodup) (hi : X.N[i]? = some x) (hj : X.N[j]? = some y) (hl : X.N[l]? = some z) (hij : i ≠ j) (hil : i ≠ l) (hjl : j ≠ l)
    (hx : X.env.scope.names.lookup x = some .local) (hy : X.env.scope.names.lookup y = some .local) (hz : X.env.scope.names.lookup z = some .local) (ha : DX M W X [a, b, c] fa)
    (hw : swappedStores [.Tuple [.Name x px, .Name y py, .Name z pz] kt pt] (.Tuple [a, b, c] k2 pt2) X.env = pure (some [x, y, z]))
    (hs : swapsWithSole [.Tuple [.Name x px, .Name y py, .Name z pz] kt pt] (.Tuple [a, b, c] k2 pt2) pos.line X.env = pure false := by rfl) :
    DS M W X (.Assign [.Tuple [.Name x px, .Name y py, .Name z pz] kt pt] (.Tuple [a, b, c] k2 pt2) pos) (sPar3E i j l fa) := by
  obtain ⟨t, p, h⟩ := ha
  refine ⟨_, ps_par3 hc hN hi hj hl hij hil hjl hx hy hz p hw hs, fun c F H σ δ E ok post => h c F H σ δ _ ok (PostS.ofE post fun rs δ1 vs F1 H1 _ s1 ok1 rr post => ?_)⟩
  split at post
  · rename_i r1 r2 r3 _
    split at post
    · rename_i hlen
      obtain ⟨u, ws, rfl, k1, rr, d1⟩ := rr
      obtain ⟨v, ws, rfl, k2, rr, d2⟩ := rr
      obtain ⟨w, ws, rfl, k3, rr, _⟩ := rr
      obtain rfl : ws = [] := rr
      have li : i < σ.length := by rw [ok1.len]; exact hlen.1
      have lj : j < σ.length := by rw [ok1.len]; exact hlen.2
      have e12 : r1.mu = true → r2.mu = true → v ≠ u := fun m1 m2 z => d1 m1 0 r2 rfl m2 (by rw [z]; rfl)
      have e13 : r1.mu = true → r3.mu = true → w ≠ u := fun m1 m2 z => d1 m1 1 r3 rfl m2 (by rw [z]; rfl)
      have e23 : r2.mu = true → r3.mu = true → w ≠ v := fun m1 m2 z => d2 m1 0 r3 rfl m2 (by rw [z]; rfl)
      exact ⟨u, v, w, rfl, post F1 H1 _ (Same.refl _) (((ok1.setR i k1).setR j (repR_setR li k2 e12)).setR l (repR_setR (by simpa using lj) (repR_setR li k3 e13) e23))⟩
    · exact post.elim
  · exact post.elim
end
end
end TS

set_option maxRecDepth 100000
set_option maxHeartbeats 4000000
/-! TSm: an object whose fields hold dicts that are filled; d.setdefault with tuples as keys. -/
namespace TS
open PySem PySem.Spec PyProof.Rows L2
noncomputable section
section
variable {X : Cx} {pins : List (Addr × Obj)} {σ : L2.St} {H : Hp} {s : Shared} {a b : Addr} {u r : Value} {d : V} {k : List Key} {A : Around} {E : Value → Shared → Prop}
theorem d_setdT {kvs : List (List Key × V)} {Q : Value → Shared → Prop} (hu : A.units + 1 < cLine) (I : Inv X pins σ H s) (e : H a = some (.dT kvs)) (eb : H b = some (.tup (k.map kV))) (rd : RelV d r) (hl : kvs.length < sizeLine)
    (h1 : ∀ v, valV kvs k = some v → ∀ (w' : Value) (s' : Shared), Inv X pins σ H s' → RelV v w' → Q w' s') (h2 : valV kvs k = none → ∀ (w' : Value) (s' : Shared), Inv X pins σ (upd H a (.dT (putK kvs k d))) s' → RelV d w' → Q w' s') :
    wpAny (model X.prog X.w) A (call (.builtin "dict.setdefault") [.ref a, .ref b, r]) Q E s := by
  obtain ⟨z, hd, xs, rel, dd⟩ := dt_of I.hok e
  have hz : xs.length ≤ sizeLine := by rw [← Paired.length rel]; exact z
  have hl2 : (putK kvs k d).length ≤ sizeLine := by have := length_putK kvs k d; omega
  have q := rel.val k
  refine call_setdefault_heap (hsz := hz) (tupleKind_room_in1 hu) (key_of I.hok eb) hd dd (fun p hp => ?_) fun hn h' dd' hs => ?_
  · rw [hp] at q
    cases q0 : valV kvs k with
    | none => rw [q0] at q; exact (show False from q).elim
    | some v0 => rw [q0] at q; exact h1 v0 q0 _ _ (I.tok _) q
  · rw [hn] at q
    cases q0 : valV kvs k with
    | some v0 => rw [q0] at q; exact (show False from q).elim
    | none =>
      obtain ⟨q, es, ep, hq, k2, k3, k4, _, k5⟩ := dd'
      refine h2 q0 _ _ (d_write I (by rw [e]; exact True.intro) hs ⟨q, hq⟩ ⟨hl2, hd, _, (rel.put k eb rd).keeps fun c ys ec => ?_, q, es, ep, hq, k2, k3, k4, k5⟩) rd
      rw [upd_ne (L2.ne_of ec e (fun z => nomatch z))]
      exact ec
def tDSetdT (td ty tx : TE) : TE := fun σ H Q => td σ H fun x H1 => ∃ a, x = .ref a ∧ IsD H1 a ∧ ty σ H1 fun y H2 => tx σ H2 fun z H3 => ∃ (kvs : List (List Key × V)) (k : List Key) (b : Addr), H3 a = some (.dT kvs) ∧ y = .ref b ∧ H3 b = some (.tup (k.map kV)) ∧ kvs.length < sizeLine ∧
  (∀ v, valV kvs k = some v → Q v H3) ∧ (valV kvs k = none → Q z (upd H3 a (.dT (putK kvs k z))))
theorem pe_dsetdT {o e f : Expr} {td ty tx : TE} {apos cpos : Pos} (hu : X.A.units + 1 < cLine) (ho : PE X o td) (he : PE X e ty) (hf : PE X f tx) (m : M2 X o "setdefault" apos e f cpos) : PE X (.Call (.Attribute o "setdefault" apos) [e, f] [] cpos) (tDSetdT td ty tx) := by
  refine ⟨fun pins s σ H Q I h => ?_⟩
  refine wpAny_Call_method m.base m.few m.line PySem.F.plainAttrs_dict PySem.F.slot_dict_setdefault PySem.F.type_dict_setdefault (thn (ho.run pins s σ H _ I h) fun u s1 ⟨x, H1, I1, rx, a, ex, d, q1⟩ => ?_)
  subst ex
  obtain rfl : u = Value.ref a := rx
  obtain ⟨t1, t2, _⟩ := isD_at I1 d
  refine ⟨t1, t2, ?_⟩
  rw [m.trees]
  refine Calls.callWith_builtin rfl (Calls.evalArgs_plain (Calls.spliced_cons (thn (he.run pins s1 σ H1 _ I1 q1) fun iv s2 ⟨y, H2, I2, ry, q2⟩ =>
    Calls.spliced_cons (thn (hf.run pins s2 σ H2 _ I2 q2) fun fv s3 ⟨z, H3, I3, rz, kvs, k, b, ea, ey, eb, hl, q3, q4⟩ => Calls.spliced_nil ?_))))
  subst ey
  obtain rfl : iv = Value.ref b := ry
  exact d_setdT hu I3 ea eb rz hl (fun v hv w' s4 I4 rw' => ⟨v, _, I4, rw', q3 v hv⟩) fun hn w' s4 I4 rw' => ⟨z, _, I4, rw', q4 hn⟩
end
end
end TS
namespace TS
open PySem L2
noncomputable section
/-! ### cells that only one object reaches -/
inductive Pth where
  | self | fld (j : Nat) | row (j e : Nat)
deriving DecidableEq
inductive NF where
  | d (d : D) | dk (ks : List Key) (ds : List D) | rk (L : List (Key × List D)) | rt (L : List (List Key × List D))
def NF.toD : NF → D
  | .d x => x
  | .dk ks ds => .dK ks ds
  | .rk L => .dK (L.map (·.1)) (L.map fun x => .lst x.2)
  | .rt L => .dT (L.map (·.1)) (L.map fun x => .lst x.2)
structure NS where
  δ : Sl
  n : Nat
  fs : List NF
  al : Option (Nat × Nat)
def immS (δ : Sl) : Bool := δ.all fun x => match x with
  | none => true
  | some (.imm _) => true
  | _ => false
abbrev Adr := Pth → Addr
abbrev Con := Pth → Option HO
def setC {α : Type} (f : Pth → α) (p : Pth) (a : α) : Pth → α := fun q => if q = p then a else f q
@[simp] theorem setC_same {α : Type} (f : Pth → α) (p : Pth) (a : α) : setC f p a p = a := if_pos rfl
theorem setC_ne {α : Type} {f : Pth → α} {p q : Pth} {a : α} (h : q ≠ p) : setC f p a q = f q := if_neg h
section
variable {M : Gm}
structure NBas (c : Cn M) (F H : Hp) : Prop where
  same : Same F H
  grow : Same c.F0 F
  nofz : ∀ b, c.H0 b ≠ none → c.F0 b = none → F b = none
  kept : ∀ b o, c.H0 b = some o → c.io ≠ some b → H b = some o
  ioh : ∀ a, c.io = some a → ∃ u, H a = some u ∧ NT u
  tb : Tb M F H
structure Cells (c : Cn M) (F H : Hp) (adr : Adr) (cont : Con) : Prop where
  at_ : ∀ p o, cont p = some o → H (adr p) = some o
  fr : ∀ p o, cont p = some o → F (adr p) = none
  h0 : ∀ p o, cont p = some o → p ≠ .self → c.H0 (adr p) = none
  inj : ∀ p q o o', cont p = some o → cont q = some o' → adr p = adr q → p = q
  io : c.io = some (adr .self)
  sf : ∃ o, cont .self = some o
  nt : ∀ p o, cont p = some o → NT o
variable {c : Cn M} {F F' H H' : Hp} {adr : Adr} {cont : Con}
theorem NBas.h0 (b : NBas c F H) {p : Addr} (hp : H p = none) : c.H0 p = none := by
  cases e : c.H0 p with
  | none => rfl
  | some o =>
    by_cases hi : c.io = some p
    · obtain ⟨u, e1, _⟩ := b.ioh p hi
      rw [hp] at e1; cases e1
    · rw [b.kept p o e hi] at hp; cases hp
theorem NBas.hn (b : NBas c F H) {p : Addr} (hp : c.H0 p ≠ none) : ∃ u, H p = some u ∧ NT u := by
  by_cases hi : c.io = some p
  · exact b.ioh p hi
  · cases e : c.H0 p with
    | none => exact absurd e hp
    | some o => exact ⟨o, b.kept p o e hi, c.nt p o e⟩
theorem NBas.f (b : NBas c F H) {p : Addr} (hp : H p = none) : F p = none := b.same.free hp
theorem NBas.stp (b : NBas c F H) (st : Stp M F H F' H' none) : NBas c F' H' := by
  have kp : ∀ b o, H b = some o → NT o → H' b = some o := fun b o e n => st.kept b o e n (fun z => by cases z)
  refine ⟨st.same, b.grow.trans st.grow, fun x e1 e2 => ?_, fun x o e1 e2 => kp x o (b.kept x o e1 e2) (c.nt x o e1), fun x e1 => ?_, st.tb⟩
  · obtain ⟨u, k1, k2⟩ := b.hn e1
    exact st.nofz x u k1 k2 (b.nofz x e1 e2)
  · obtain ⟨o, q1, q2⟩ := b.ioh x e1
    exact ⟨o, kp x o q1 q2, q2⟩
theorem Cells.stp (k : Cells c F H adr cont) (st : Stp M F H F' H' none) : Cells c F' H' adr cont := by
  have kp : ∀ b o, H b = some o → NT o → H' b = some o := fun b o e n => st.kept b o e n (fun z => by cases z)
  exact ⟨fun p o e => kp _ _ (k.at_ p o e) (k.nt p o e), fun p o e => st.nofz _ o (k.at_ p o e) (k.nt p o e) (k.fr p o e), k.h0, k.inj, k.io, k.sf, k.nt⟩
theorem stp_alloc (s : Same F H) (t : Tb M F H) {p : Addr} {o : HO} (hp : H p = none) : Stp M F H F (upd H p o) none :=
  ⟨Same.refl _, fun _ _ _ _ e => e, fun b u e _ _ => by rw [upd_ne (L2.ne_of_none e hp)]; exact e, fun b u e => by rw [upd_ne (L2.ne_of_none (s b u e) hp)]; exact s b u e, t.alloc hp⟩
theorem stp_trans {F2 H2 : Hp} (a : Stp M F H F' H' none) (b : Stp M F' H' F2 H2 none) : Stp M F H F2 H2 none :=
  ⟨a.grow.trans b.grow, fun x o e1 n e2 => b.nofz x o (a.kept x o e1 n (fun z => by cases z)) n (a.nofz x o e1 n e2), fun x o e n _ => b.kept x o (a.kept x o e n (fun z => by cases z)) n (fun z => by cases z), b.same, b.tb⟩
/-- a cell is written -/
theorem Cells.put (k : Cells c F H adr cont) {p : Pth} {o o' : HO} (e : cont p = some o) (hn : NT o' := by rfl) : Cells c F (upd H (adr p) o') adr (setC cont p (some o')) := by
  have other : ∀ q u, q ≠ p → cont q = some u → adr q ≠ adr p := fun q u hq e' z => hq (k.inj q p u o e' e z)
  have back : ∀ q u, setC cont p (some o') q = some u → ∃ u', cont q = some u' := fun q u e' => by
    by_cases z : q = p
    · exact ⟨o, z ▸ e⟩
    · rw [setC_ne z] at e'; exact ⟨u, e'⟩
  refine ⟨fun q u e' => ?_, fun q u e' => ?_, fun q u e' hq => ?_, fun q q' u u' e1 e2 => ?_, k.io, ?_, fun q u e' => ?_⟩
  · by_cases z : q = p
    · subst z; rw [setC_same] at e'; cases e'; exact upd_same
    · rw [setC_ne z] at e'; rw [upd_ne (other q u z e')]; exact k.at_ q u e'
  · obtain ⟨u', z⟩ := back q u e'; exact k.fr q u' z
  · obtain ⟨u', z⟩ := back q u e'; exact k.h0 q u' z hq
  · obtain ⟨v, z⟩ := back q u e1
    obtain ⟨v', z'⟩ := back q' u' e2
    exact k.inj q q' v v' z z'
  · obtain ⟨u, hu⟩ := k.sf
    by_cases z : Pth.self = p
    · exact ⟨o', by rw [← z, setC_same]⟩
    · exact ⟨u, by rw [setC_ne z]; exact hu⟩
  · by_cases z : q = p
    · subst z; rw [setC_same] at e'; cases e'; exact hn
    · rw [setC_ne z] at e'; exact k.nt q u e'
theorem NBas.put (b : NBas c F H) (k : Cells c F H adr cont) {p : Pth} {o o' : HO} (e : cont p = some o) (hn : NT o' := by rfl) : NBas c F (upd H (adr p) o') := by
  refine ⟨fun x u h => ?_, b.grow, b.nofz, fun x u e1 e2 => ?_, fun x e1 => ?_, b.tb.write (k.at_ p o e) (k.nt p o e)⟩
  · have z : x ≠ adr p := fun z => by rw [z, k.fr p o e] at h; cases h
    rw [upd_ne z]; exact b.same x u h
  · have z : x ≠ adr p := fun z => by
      by_cases hs : p = .self
      · subst hs; exact e2 (by rw [z]; exact k.io)
      · rw [z, k.h0 p o e hs] at e1; cases e1
    rw [upd_ne z]; exact b.kept x u e1 e2
  · by_cases z : x = adr p
    · exact ⟨o', by rw [z, upd_same], hn⟩
    · rw [upd_ne z]; exact b.ioh x e1
/-- a new cell -/
theorem Cells.new (b : NBas c F H) (k : Cells c F H adr cont) {p : Pth} {a : Addr} {o : HO} (hs : p ≠ .self) (e : cont p = none) (ha : H a = none) (hn : NT o := by rfl) : Cells c F (upd H a o) (setC adr p a) (setC cont p (some o)) := by
  have other : ∀ q u, cont q = some u → adr q ≠ a := fun q u e' z => by rw [← z, k.at_ q u e'] at ha; cases ha
  have ne : ∀ q u, cont q = some u → q ≠ p := fun q u e' z => by rw [z, e] at e'; cases e'
  refine ⟨fun q u e' => ?_, fun q u e' => ?_, fun q u e' hq => ?_, fun q q' u u' e1 e2 h => ?_, ?_, ?_, fun q u e' => ?_⟩
  · by_cases z : q = p
    · subst z; rw [setC_same] at e' ⊢; cases e'; exact upd_same
    · rw [setC_ne z] at e' ⊢; rw [upd_ne (other q u e')]; exact k.at_ q u e'
  · by_cases z : q = p
    · subst z; rw [setC_same]; exact b.f ha
    · rw [setC_ne z] at e' ⊢; exact k.fr q u e'
  · by_cases z : q = p
    · subst z; rw [setC_same]; exact b.h0 ha
    · rw [setC_ne z] at e' ⊢; exact k.h0 q u e' hq
  · by_cases z : q = p
    · by_cases z' : q' = p
      · rw [z, z']
      · rw [z, setC_same, setC_ne z'] at h
        rw [setC_ne z'] at e2
        exact absurd h.symm (other q' u' e2)
    · rw [setC_ne z] at e1 h
      by_cases z' : q' = p
      · rw [z', setC_same] at h
        exact absurd h (other q u e1)
      · rw [setC_ne z'] at e2 h
        exact k.inj q q' u u' e1 e2 h
  · rw [setC_ne (Ne.symm hs)]; exact k.io
  · obtain ⟨u, hu⟩ := k.sf
    exact ⟨u, by rw [setC_ne (Ne.symm hs)]; exact hu⟩
  · by_cases z : q = p
    · subst z; rw [setC_same] at e'; cases e'; exact hn
    · rw [setC_ne z] at e'; exact k.nt q u e'
/-! the slots beside: data alone -/
structure SlI (F : Hp) (σ : St) (δ : Sl) : Prop where
  len : σ.length = δ.length
  at_ : ∀ (i : Nat) (r : R), δ[i]? = some (some r) → ∃ d v, r = .imm d ∧ σ[i]? = some (some v) ∧ rep M F d v
end
def frm (M : Gm) (F H : Hp) : Cn M := ⟨F, str0 H, none, fun _ e => (nomatch e), fun _ _ h => (str0_nt h).2⟩
section
variable {M : Gm} {c : Cn M} {F F' H H' : Hp} {σ : St} {δ δ' : Sl} {W : WX} {X : Cx}
theorem SlI.mono (h : SlI (M := M) F σ δ) (g : Same F F') : SlI (M := M) F' σ δ := ⟨h.len, fun i r e => by
  obtain ⟨d, v, h1, h2, h3⟩ := h.at_ i r e
  exact ⟨d, v, h1, h2, rep_mono g _ _ h3⟩⟩
theorem SlI.ok (h : SlI (M := M) F σ δ) (s : Same F H) (t : Tb M F H) : Ok (frm M F H) F H σ δ where
  same := s
  grow := Same.refl _
  nofz := fun _ _ e => e
  kept := fun _ _ e _ => (str0_nt e).1
  ioh := fun _ e => (nomatch e)
  tb := t
  len := h.len
  slot := fun i r e => by
    obtain ⟨d, v, rfl, h2, h3⟩ := h.at_ i r e
    exact ⟨v, h2, h3⟩
  dist := fun i j r r' v _ e _ m => by
    obtain ⟨d, v, rfl, h2, h3⟩ := h.at_ i r e
    cases m
theorem immS_at (h : immS δ = true) {i : Nat} {r : R} (e : δ[i]? = some (some r)) : ∃ d, r = .imm d := by
  unfold immS at h
  rw [List.all_eq_true] at h
  have := h _ (List.mem_of_getElem? e)
  cases r with
  | imm d => exact ⟨d, rfl⟩
  | own o => cases this
  | brw o => cases this
theorem SlI.back {F0 H0 : Hp} (ok : Ok (frm M F0 H0) F H σ δ) (hi : immS δ = true) : SlI (M := M) F σ δ := ⟨ok.len, fun i r e => by
  obtain ⟨d, rfl⟩ := immS_at hi e
  obtain ⟨v, h1, h2⟩ := ok.slot i _ e
  exact ⟨d, v, rfl, h1, h2⟩⟩
theorem stp_back {F0 H0 : Hp} (ok : Ok (frm M F0 H0) F H σ δ) : Stp M F0 H0 F H none := ⟨ok.grow, fun b o e1 n e2 => ok.nofz b (by show str0 H0 b ≠ none; rw [str0_of e1 n]; exact fun z => nomatch z) e2, fun b o e n _ => ok.kept b o (str0_of e n) (fun z => nomatch z), ok.same, ok.tb⟩
/-- an expression of data under the frame -/
theorem di_frm {e : Expr} {f : FD} (h : DI M W X e f) : ∃ t, PE X e t ∧ ∀ F H σ δ d δ' (Q : VK), Same F H → Tb M F H → SlI (M := M) F σ δ → f δ = .ok d δ' → immS δ' = true → (∀ v F' H', Stp M F H F' H' none → SlI (M := M) F' σ δ' → rep M F' d v → Q v H') → t σ H Q := by
  obtain ⟨t, p, h⟩ := h
  refine ⟨t, p, fun F H σ δ d δ' Q s tb sl e hi q => h (frm M F H) F H σ δ Q (sl.ok s tb) ?_⟩
  rw [e]
  exact fun v F' H' g ok r => q v F' H' (stp_back ok) (SlI.back ok hi) r
theorem dt_frm {e : Expr} {f : FT} (h : DT M W X e f) : ∃ t, PT X e t ∧ ∀ F H σ δ b δ' (Q : Bool → Hp → Prop), Same F H → Tb M F H → SlI (M := M) F σ δ → f δ = .ok b δ' → immS δ' = true → (∀ F' H', Stp M F H F' H' none → SlI (M := M) F' σ δ' → Q b H') → t σ H Q := by
  obtain ⟨t, p, h⟩ := h
  refine ⟨t, p, fun F H σ δ b δ' Q s tb sl e hi q => h (frm M F H) F H σ δ Q (sl.ok s tb) ?_⟩
  rw [e]
  intro v F' H' g ok r
  cases (show b = v from r)
  exact q F' H' (stp_back ok) (SlI.back ok hi)
theorem dit_frm {tg e : Expr} {f : FA} (h : DIt M W X tg e f) : ∃ t, PI X tg e t ∧ ∀ F H σ δ ds δ' (Q : It → Hp → Prop), Same F H → Tb M F H → SlI (M := M) F σ δ → f δ = .ok ds δ' → immS δ' = true → (∀ J F' H', Stp M F H F' H' none → SlI (M := M) F' σ δ' → Walks M J F' ds → Q J H') → t σ H Q := by
  obtain ⟨t, p, h⟩ := h
  refine ⟨t, p, fun F H σ δ b δ' Q s tb sl e hi q => h (frm M F H) F H σ δ Q (sl.ok s tb) ?_⟩
  rw [e]
  exact fun v F' H' g ok r => q v F' H' (stp_back ok) (SlI.back ok hi) r
theorem SlI.setI (h : SlI (M := M) F σ δ) {d : D} {v : V} (i : Nat) (r : rep M F d v) : SlI (M := M) F (σ.set i (some v)) (δ.set i (some (.imm d))) := ⟨by simp [h.len], fun j r' e => by
  rcases getElem?_set_some e with ⟨rfl, e1, hl⟩ | ⟨hn, e1⟩
  · cases e1
    exact ⟨d, v, rfl, List.getElem?_set_self (by rw [h.len]; exact hl), r⟩
  · rw [List.getElem?_set_ne hn]
    exact h.at_ j r' e1⟩
end
end
end TS

set_option maxRecDepth 100000
set_option maxHeartbeats 4000000
/-! TSn: statements that fill the dicts of an object. -/
namespace TS
open PySem L2
noncomputable section
section
variable {M : Gm}
def rowsOk (M : Gm) (F : Hp) (adr : Adr) (cont : Con) (j : Nat) {κ : Type} (mk : List (κ × V) → HO) (L : List (κ × List D)) (v : V) : Prop :=
  v = .ref (adr (.fld j)) ∧ (∃ kvs : List (κ × V), cont (.fld j) = some (mk kvs) ∧ kvs.map (·.1) = L.map (·.1) ∧ ∀ (e : Nat) (kv : κ × V), kvs[e]? = some kv → kv.2 = .ref (adr (.row j e))) ∧
  (∀ (e : Nat) (x : κ × List D), L[e]? = some x → ∃ vs, cont (.row j e) = some (.lst vs) ∧ reps M F x.2 vs) ∧ ∀ e, L.length ≤ e → cont (.row j e) = none
def fldOk (M : Gm) (F : Hp) (adr : Adr) (cont : Con) (j : Nat) : NF → V → Prop
  | .d x, v => rep M F x v
  | .dk ks ds, v => v = .ref (adr (.fld j)) ∧ ∃ kvs : List (Key × V), cont (.fld j) = some (.dK kvs) ∧ kvs.map (·.1) = ks ∧ reps M F ds (kvs.map (·.2))
  | .rk L, v => rowsOk M F adr cont j HO.dK L v
  | .rt L, v => rowsOk M F adr cont j HO.dT L v
structure NK (c : Cn M) (i0 ir : Nat) (F H : Hp) (σ : St) (s : NS) (adr : Adr) (cont : Con) (C dx : Addr) (fvs : List (Str × V)) : Prop where
  bas : NBas c F H
  cel : Cells c F H adr cont
  sl : SlI (M := M) F σ s.δ
  G : M.G s.n = some C
  sf : cont .self = some (.ins C dx fvs)
  nm : fvs.map (·.1) = (M.nm s.n).take s.fs.length
  ln : fvs.length = s.fs.length
  fl : ∀ (j : Nat) (f : NF) (p : Str × V), s.fs[j]? = some f → fvs[j]? = some p → fldOk M F adr cont j f p.2
  no : ∀ j, s.fs.length ≤ j → cont (.fld j) = none ∧ ∀ e, cont (.row j e) = none
  i0 : σ[i0]? = some (some (.ref (adr .self)))
  rn : s.δ[ir]? = some none
  al : ∀ j e, s.al = some (j, e) → σ[ir]? = some (some (.ref (adr (.row j e))))
def NOk (c : Cn M) (i0 ir : Nat) (F H : Hp) (σ : St) (s : NS) : Prop := ∃ adr cont C dx fvs, NK c i0 ir F H σ s adr cont C dx fvs
variable {c : Cn M} {i0 ir : Nat} {F F' H H' : Hp} {σ σ' : St} {s : NS} {adr : Adr} {cont : Con} {C dx : Addr} {fvs : List (Str × V)}
theorem rowsOk.mono {κ : Type} {mk : List (κ × V) → HO} {j : Nat} {L : List (κ × List D)} {v : V} (h : rowsOk M F adr cont j mk L v) (g : Same F F') : rowsOk M F' adr cont j mk L v := by
  obtain ⟨h1, h2, h3, h4⟩ := h
  exact ⟨h1, h2, fun e x hx => by
    obtain ⟨vs, k1, k2⟩ := h3 e x hx
    exact ⟨vs, k1, reps_mono g _ _ k2⟩, h4⟩
theorem fldOk.mono {j : Nat} {f : NF} {v : V} (h : fldOk M F adr cont j f v) (g : Same F F') : fldOk M F' adr cont j f v := by
  cases f with
  | d x => exact rep_mono g _ _ h
  | dk ks ds =>
    obtain ⟨h1, kvs, h2, h3, h4⟩ := h
    exact ⟨h1, kvs, h2, h3, reps_mono g _ _ h4⟩
  | rk L => exact rowsOk.mono h g
  | rt L => exact rowsOk.mono h g
/-- the steps that touch no cell -/
theorem NK.step (k : NK c i0 ir F H σ s adr cont C dx fvs) (st : Stp M F H F' H' none) {δ' : Sl} (sl : SlI (M := M) F' σ' δ') (h0 : σ'[i0]? = σ[i0]?) (hr : σ'[ir]? = σ[ir]?) (hn : δ'[ir]? = some none) : NK c i0 ir F' H' σ' { s with δ := δ' } adr cont C dx fvs :=
  ⟨k.bas.stp st, k.cel.stp st, sl, k.G, k.sf, k.nm, k.ln, fun j f p e1 e2 => (k.fl j f p e1 e2).mono st.grow, k.no, h0.trans k.i0, hn, fun j e h => hr.trans (k.al j e h)⟩
/-- a dict of data is written -/
theorem rowsOk.put {κ : Type} {mk : List (κ × V) → HO} {j j' : Nat} {L : List (κ × List D)} {v : V} {o : Option HO} (h : rowsOk M F adr cont j' mk L v) (hj : j' ≠ j) : rowsOk M F adr (setC cont (.fld j) o) j' mk L v := by
  obtain ⟨h1, ⟨kvs, h2, h3⟩, h4, h5⟩ := h
  refine ⟨h1, ⟨kvs, ?_, h3⟩, fun e x hx => ?_, fun e he => ?_⟩
  · rw [setC_ne (by intro z; cases z; exact hj rfl)]; exact h2
  · obtain ⟨vs, k1, k2⟩ := h4 e x hx
    exact ⟨vs, by rw [setC_ne (by intro z; cases z)]; exact k1, k2⟩
  · rw [setC_ne (by intro z; cases z)]; exact h5 e he
theorem fldOk.put {j j' : Nat} {f : NF} {v : V} {o : Option HO} (h : fldOk M F adr cont j' f v) (hj : j' ≠ j) : fldOk M F adr (setC cont (.fld j) o) j' f v := by
  cases f with
  | d x => exact h
  | dk ks ds =>
    obtain ⟨h1, kvs, h2, h3, h4⟩ := h
    exact ⟨h1, kvs, by rw [setC_ne (by intro z; cases z; exact hj rfl)]; exact h2, h3, h4⟩
  | rk L => exact rowsOk.put h hj
  | rt L => exact rowsOk.put h hj
theorem getElem?_set_cases {α : Type} {l : List α} {i j : Nat} {x y : α} (h : (l.set i x)[j]? = some y) : (i = j ∧ x = y) ∨ (i ≠ j ∧ l[j]? = some y) := by
  rcases getElem?_set_some h with ⟨h1, h2, _⟩ | h
  · exact .inl ⟨h1, h2⟩
  · exact .inr h
theorem NK.putD (k : NK c i0 ir F H σ s adr cont C dx fvs) {j : Nat} {ks : List Key} {ds : List D} {kk : Key} {d : D} {v : V} (hj : s.fs[j]? = some (.dk ks ds)) (hd : rep M F d v) :
    ∃ kvs : List (Key × V), H (adr (.fld j)) = some (.dK kvs) ∧ kvs.length = ds.length ∧ NK c i0 ir F (upd H (adr (.fld j)) (.dK (putK kvs kk v))) σ { s with fs := s.fs.set j (.dk (TS.putD ks ds kk d).1 (TS.putD ks ds kk d).2) } adr (setC cont (.fld j) (some (.dK (putK kvs kk v)))) C dx fvs := by
  have hlt : j < s.fs.length := (List.getElem?_eq_some_iff.mp hj).1
  obtain ⟨p, hp⟩ : ∃ p, fvs[j]? = some p := ⟨fvs[j]'(by rw [k.ln]; exact hlt), List.getElem?_eq_getElem _⟩
  obtain ⟨h1, kvs, h2, h3, h4⟩ := k.fl j _ p hj hp
  obtain ⟨q1, q2⟩ := putD_v hd kk h4
  rw [h3] at q1 q2
  refine ⟨kvs, k.cel.at_ _ _ h2, by have := reps_length h4; simpa using this, k.bas.put k.cel h2, k.cel.put h2, k.sl, k.G, ?_, ?_, ?_, fun j' f p' e1 e2 => ?_, fun j' hj' => ?_, k.i0, k.rn, k.al⟩
  · rw [setC_ne (by intro z; cases z)]; exact k.sf
  · simp only [List.length_set]; exact k.nm
  · simp only [List.length_set]; exact k.ln
  · rcases getElem?_set_cases e1 with ⟨z, z2⟩ | ⟨z, e1⟩
    · subst z; subst z2
      rw [hp] at e2; cases e2
      exact ⟨h1, _, setC_same _ _ _, q1, q2⟩
    · exact (k.fl j' f p' e1 e2).put (Ne.symm z)
  · simp only [List.length_set] at hj'
    obtain ⟨n1, n2⟩ := k.no j' hj'
    refine ⟨?_, fun e => ?_⟩
    · rw [setC_ne (by intro z; cases z; omega)]; exact n1
    · rw [setC_ne (by intro z; cases z)]; exact n2 e
/-- a row is written -/
theorem rowsOk.putRow {κ : Type} {mk : List (κ × V) → HO} {j j' e : Nat} {L : List (κ × List D)} {v : V} {o : Option HO} (h : rowsOk M F adr cont j' mk L v) (hj : j' ≠ j) : rowsOk M F adr (setC cont (.row j e) o) j' mk L v := by
  obtain ⟨h1, ⟨kvs, h2, h3⟩, h4, h5⟩ := h
  refine ⟨h1, ⟨kvs, ?_, h3⟩, fun e' x hx => ?_, fun e' he => ?_⟩
  · rw [setC_ne (by intro z; cases z)]; exact h2
  · obtain ⟨vs, k1, k2⟩ := h4 e' x hx
    exact ⟨vs, by rw [setC_ne (by intro z; cases z; exact hj rfl)]; exact k1, k2⟩
  · rw [setC_ne (by intro z; cases z; exact hj rfl)]; exact h5 e' he
theorem fldOk.putRow {j j' e : Nat} {f : NF} {v : V} {o : Option HO} (h : fldOk M F adr cont j' f v) (hj : j' ≠ j) : fldOk M F adr (setC cont (.row j e) o) j' f v := by
  cases f with
  | d x => exact h
  | dk ks ds =>
    obtain ⟨h1, kvs, h2, h3, h4⟩ := h
    exact ⟨h1, kvs, by rw [setC_ne (by intro z; cases z)]; exact h2, h3, h4⟩
  | rk L => exact rowsOk.putRow h hj
  | rt L => exact rowsOk.putRow h hj
theorem rowsOk.app {κ : Type} {mk : List (κ × V) → HO} {j e : Nat} {L : List (κ × List D)} {v : V} {x : κ × List D} {ds : List D} {vs : List V} (h : rowsOk M F adr cont j mk L v) (hx : L[e]? = some x) (r : reps M F ds vs) : rowsOk M F adr (setC cont (.row j e) (some (.lst vs))) j mk (L.set e (x.1, ds)) v := by
  obtain ⟨h1, ⟨kvs, h2, h3, h6⟩, h4, h5⟩ := h
  have hl : e < L.length := (List.getElem?_eq_some_iff.mp hx).1
  refine ⟨h1, ⟨kvs, ?_, ?_, h6⟩, fun e' y hy => ?_, fun e' he => ?_⟩
  · rw [setC_ne (by intro z; cases z)]; exact h2
  · rw [h3, List.map_set]
    apply List.ext_getElem?
    intro i
    by_cases z : e = i
    · subst z
      rw [List.getElem?_set_self (by simpa using hl), List.getElem?_map, hx]; rfl
    · rw [List.getElem?_set_ne z]
  · rcases getElem?_set_cases hy with ⟨z, z2⟩ | ⟨z, hy⟩
    · subst z; subst z2
      exact ⟨vs, setC_same _ _ _, r⟩
    · obtain ⟨ws, k1, k2⟩ := h4 e' y hy
      exact ⟨ws, by rw [setC_ne (by intro q; cases q; exact z rfl)]; exact k1, k2⟩
  · simp only [List.length_set] at he
    rw [setC_ne (by intro q; cases q; omega)]; exact h5 e' he
/-- the row that the name stands for -/
def rowOf (s : NS) : Option (List D) := s.al.bind fun p => (s.fs[p.1]?).bind fun f => match f with
  | .rk L => (L[p.2]?).map (·.2)
  | .rt L => (L[p.2]?).map (·.2)
  | _ => none
def setRow (s : NS) (ds : List D) : Option NS := s.al.bind fun p => (s.fs[p.1]?).bind fun f => match f with
  | .rk L => (L[p.2]?).map fun x => { s with fs := s.fs.set p.1 (.rk (L.set p.2 (x.1, ds))) }
  | .rt L => (L[p.2]?).map fun x => { s with fs := s.fs.set p.1 (.rt (L.set p.2 (x.1, ds))) }
  | _ => none
theorem NK.row (k : NK c i0 ir F H σ s adr cont C dx fvs) {row : List D} (h : rowOf s = some row) : ∃ j e vs, s.al = some (j, e) ∧ σ[ir]? = some (some (.ref (adr (.row j e)))) ∧ s.δ[ir]? = some none ∧ cont (.row j e) = some (.lst vs) ∧ reps M F row vs := by
  obtain ⟨⟨j, e⟩, ha, h⟩ := Option.bind_eq_some_iff.mp h
  obtain ⟨f, hf, h⟩ := Option.bind_eq_some_iff.mp h
  have a1 := k.al j e ha
  have a2 := k.rn
  have hlt : j < s.fs.length := (List.getElem?_eq_some_iff.mp hf).1
  obtain ⟨p, hp⟩ : ∃ p, fvs[j]? = some p := ⟨fvs[j]'(by rw [k.ln]; exact hlt), List.getElem?_eq_getElem _⟩
  have hk := k.fl j f p hf hp
  cases f with
  | d x => cases h
  | dk ks ds => cases h
  | rk L =>
    obtain ⟨x, hx, rfl⟩ := Option.map_eq_some_iff.mp h
    obtain ⟨vs, k1, k2⟩ := hk.2.2.1 e x hx
    exact ⟨j, e, vs, ha, a1, a2, k1, k2⟩
  | rt L =>
    obtain ⟨x, hx, rfl⟩ := Option.map_eq_some_iff.mp h
    obtain ⟨vs, k1, k2⟩ := hk.2.2.1 e x hx
    exact ⟨j, e, vs, ha, a1, a2, k1, k2⟩
theorem NK.setRow (k : NK c i0 ir F H σ s adr cont C dx fvs) {j e : Nat} (ha : s.al = some (j, e)) {ds : List D} {vs : List V} (r : reps M F ds vs) {s' : NS} (h : TS.setRow s ds = some s') : NK c i0 ir F (upd H (adr (.row j e)) (.lst vs)) σ s' adr (setC cont (.row j e) (some (.lst vs))) C dx fvs := by
  unfold TS.setRow at h
  rw [ha, Option.bind_some] at h
  obtain ⟨f, hf, h⟩ := Option.bind_eq_some_iff.mp h
  have hlt : j < s.fs.length := (List.getElem?_eq_some_iff.mp hf).1
  obtain ⟨p, hp⟩ : ∃ p, fvs[j]? = some p := ⟨fvs[j]'(by rw [k.ln]; exact hlt), List.getElem?_eq_getElem _⟩
  have hk := k.fl j f p hf hp
  have go : ∀ (f' : NF) (o : HO), cont (.row j e) = some o → fldOk M F adr (setC cont (.row j e) (some (.lst vs))) j f' p.2 → NK c i0 ir F (upd H (adr (.row j e)) (.lst vs)) σ { s with fs := s.fs.set j f' } adr (setC cont (.row j e) (some (.lst vs))) C dx fvs := fun f' o ho hf' => by
    refine ⟨k.bas.put k.cel ho, k.cel.put ho, k.sl, k.G, ?_, ?_, ?_, fun j' f p' e1 e2 => ?_, fun j' hj' => ?_, k.i0, k.rn, k.al⟩
    · rw [setC_ne (by intro z; cases z)]; exact k.sf
    · simp only [List.length_set]; exact k.nm
    · simp only [List.length_set]; exact k.ln
    · rcases getElem?_set_cases e1 with ⟨z, z2⟩ | ⟨z, e1⟩
      · subst z; subst z2
        rw [hp] at e2; cases e2
        exact hf'
      · exact (k.fl j' f p' e1 e2).putRow (Ne.symm z)
    · simp only [List.length_set] at hj'
      obtain ⟨n1, n2⟩ := k.no j' hj'
      refine ⟨?_, fun e => ?_⟩
      · rw [setC_ne (by intro z; cases z)]; exact n1
      · rw [setC_ne (by intro z; cases z; omega)]; exact n2 e
  cases f with
  | d x => cases h
  | dk ks ds => cases h
  | rk L =>
    obtain ⟨x, hx, rfl⟩ := Option.map_eq_some_iff.mp h
    obtain ⟨ws, k1, k2⟩ := hk.2.2.1 e x hx
    have := go (.rk (L.set e (x.1, ds))) _ k1 (rowsOk.app (e := e) hk hx r)
    rw [ha] at this
    exact this
  | rt L =>
    obtain ⟨x, hx, rfl⟩ := Option.map_eq_some_iff.mp h
    obtain ⟨ws, k1, k2⟩ := hk.2.2.1 e x hx
    have := go (.rt (L.set e (x.1, ds))) _ k1 (rowsOk.app (e := e) hk hx r)
    rw [ha] at this
    exact this
end
end
end TS

set_option maxRecDepth 100000
set_option maxHeartbeats 4000000
/-! TSo: the rules of statements that fill the dicts of an object. -/
namespace TS
open PySem L2
noncomputable section
abbrev GN := NS → Option NS
def DN (M : Gm) (W : WX) (X : Cx) (i0 ir : Nat) (ss : List Stmt) (g : GN) : Prop := ∃ t, PSs X ss t ∧ ∀ (c : Cn M) F H σ s s' E, NOk c i0 ir F H σ s → g s = some s' → (∀ F' H' σ', Same F F' → NOk c i0 ir F' H' σ' s' → E.nx σ' H') → t E σ H
def DN1 (M : Gm) (W : WX) (X : Cx) (i0 ir : Nat) (st : Stmt) (g : GN) : Prop := ∃ t, PS X st t ∧ ∀ (c : Cn M) F H σ s s' E, NOk c i0 ir F H σ s → g s = some s' → (∀ F' H' σ', Same F F' → NOk c i0 ir F' H' σ' s' → E.nx σ' H') → t E σ H
def noneAt (ir : Nat) (δ : Sl) : Bool := match δ[ir]? with
  | some none => true
  | _ => false
theorem noneAt_eq {ir : Nat} {δ : Sl} (h : noneAt ir δ = true) : δ[ir]? = some none := by
  unfold noneAt at h
  split at h
  · assumption
  · cases h
def runI (ir : Nat) (f : FD) (δ : Sl) : Option (D × Sl) := match f δ with
  | .ok d δ' => if immS δ' && noneAt ir δ' then some (d, δ') else none
  | _ => none
theorem runI_eq {ir : Nat} {f : FD} {δ δ' : Sl} {d : D} (h : runI ir f δ = some (d, δ')) : f δ = .ok d δ' ∧ immS δ' = true ∧ δ'[ir]? = some none := by
  unfold runI at h
  split at h
  · rename_i d2 δ2 e
    split at h
    · rename_i hi
      rw [Bool.and_eq_true] at hi
      cases h; exact ⟨e, hi.1, noneAt_eq hi.2⟩
    · cases h
  · cases h
def nSeq (g h : GN) : GN := fun s => (g s).bind h
def nNil : GN := fun s => some s
section
variable {M : Gm} {W : WX} {X : Cx} {i0 ir : Nat}
theorem dn_nil : DN M W X i0 ir [] nNil := ⟨_, pss_nil, fun c F H σ s s' E k e q => by cases e; exact q F H σ (Same.refl _) k⟩
theorem dn_cons {st : Stmt} {ss : List Stmt} {g h : GN} (a : DN1 M W X i0 ir st g) (b : DN M W X i0 ir ss h) : DN M W X i0 ir (st :: ss) (nSeq g h) := by
  obtain ⟨t, p, a⟩ := a
  obtain ⟨t', p', b⟩ := b
  refine ⟨_, pss_cons p p', fun c F H σ s s' E k e q => ?_⟩
  obtain ⟨s1, e1, e2⟩ := Option.bind_eq_some_iff.mp e
  exact a c F H σ s s1 _ k e1 fun F1 H1 σ1 g1 k1 => b c F1 H1 σ1 s1 s' E k1 e2 fun F2 H2 σ2 g2 k2 => q F2 H2 σ2 (g1.trans g2) k2
theorem dn_one {st : Stmt} {g : GN} (a : DN1 M W X i0 ir st g) : DN M W X i0 ir [st] g := by
  obtain ⟨t, p, a⟩ := a
  exact ⟨_, pss_one p, a⟩
/-! self.f[k] = e -/
def nPut (ix : Nat → Option Nat) (kd d : D) (s : NS) : Option NS := (ix s.n).bind fun j => (keyOf kd).bind fun k => (s.fs[j]?).bind fun f => match f with
  | .dk ks ds => if ds.length < 16777216 then some { s with fs := s.fs.set j (.dk (putD ks ds k d).1 (putD ks ds k d).2) } else none
  | _ => none
def nStore (ir : Nat) (ix : Nat → Option Nat) (fv fk : FD) : GN := fun s => (runI ir fv s.δ).bind fun p => (runI ir fk p.2).bind fun q => nPut ix q.1 p.1 { s with δ := q.2 }
theorem fvs_look {s : NS} {adr : Adr} {cont : Con} {C dx : Addr} {fvs : List (Str × V)} {c : Cn M} {F H : Hp} {σ : St} {f : Str} {ix : Nat → Option Nat} (T : FldT M f ix) (k : NK c i0 ir F H σ s adr cont C dx fvs) {j : Nat} {nf : NF} (hj : ix s.n = some j) (hf : s.fs[j]? = some nf) : ∃ p, fvs[j]? = some p ∧ fvs.lookup f = some p.2 ∧ fldOk M F adr cont j nf p.2 := by
  obtain ⟨_, k1, k2⟩ := T s.n j hj
  have hlt : j < s.fs.length := (List.getElem?_eq_some_iff.mp hf).1
  obtain ⟨p, hp⟩ : ∃ p, fvs[j]? = some p := ⟨fvs[j]'(by rw [k.ln]; exact hlt), List.getElem?_eq_getElem _⟩
  refine ⟨p, hp, lookup_at (j := j) ?_ ?_ (by rw [List.getElem?_map, hp]; rfl), k.fl j nf p hf hp⟩
  · rw [k.nm, List.getElem?_take_of_lt hlt]; exact k1
  · rw [k.nm, List.take_take, Nat.min_eq_left (Nat.le_of_lt hlt)]; exact k2
theorem nPut_inv {ix : Nat → Option Nat} {kd d : D} {s s' : NS} (h : nPut ix kd d s = some s') : ∃ j k ks ds, ix s.n = some j ∧ keyOf kd = some k ∧ s.fs[j]? = some (.dk ks ds) ∧ ds.length < 16777216 ∧ s' = { s with fs := s.fs.set j (.dk (putD ks ds k d).1 (putD ks ds k d).2) } := by
  unfold nPut at h
  obtain ⟨j, h1, h⟩ := Option.bind_eq_some_iff.mp h
  obtain ⟨k, h2, h⟩ := Option.bind_eq_some_iff.mp h
  obtain ⟨f, h3, h⟩ := Option.bind_eq_some_iff.mp h
  cases f with
  | dk ks ds =>
    simp only at h
    split at h
    · rename_i hl; cases h; exact ⟨j, k, ks, ds, h1, h2, h3, hl, rfl⟩
    · cases h
  | d x => cases h
  | rk L => cases h
  | rt L => cases h
/-- the common end of both stores -/
theorem put_end {c : Cn M} {F H : Hp} {σ : St} {s s' : NS} {ix : Nat → Option Nat} {kd d : D} {v kv : V} {N : St → Hp → Prop} (hk : NOk c i0 ir F H σ s) (rv : rep M F d v) (rk : rep M F kd kv) (e : nPut ix kd d s = some s') {a : Addr} (ha : ∃ adr cont C dx fvs j, NK c i0 ir F H σ s adr cont C dx fvs ∧ ix s.n = some j ∧ a = adr (.fld j))
    (q : ∀ H', NOk c i0 ir F H' σ s' → N σ H') : rSetD (.ref a) kv v H fun H' => N σ H' := by
  obtain ⟨j, k, ks, ds, h1, h2, h3, hl, rfl⟩ := nPut_inv e
  obtain ⟨adr, cont, C, dx, fvs, j', kk, hj', rfl⟩ := ha
  rw [h1] at hj'; cases hj'
  have ek := keyOf_v (M := M) (H := H) (.inl rk) h2
  subst ek
  obtain ⟨kvs, l1, l2, l3⟩ := kk.putD (kk := k) h3 rv
  exact ⟨_, _, rfl, DPut.k l1 (by rw [l2, sizeLine_eq]; exact hl), q _ ⟨_, _, _, _, _, l3⟩⟩
theorem dn_store {o ie ve : Expr} {f : Str} {ix : Nat → Option Nat} {fv fk : FD} {pos apos spos : Pos} (T : FldT M f ix) (ho : PE X o (tVar i0)) (hv : DI M W X ve fv) (hk : DI M W X ie fk) (hu : X.A.units + 1 < cLine) (hK : X.K = M.K := by rfl)
    (hb : attributeBase o f X.env (eval o X.env) = eval o X.env := by rfl)
    (ha : ∀ v, assign (.Subscript (.Attribute o f apos) ie spos) X.env v = (do
      let ov ← holding [v] (eval (.Attribute o f apos) X.env)
      let iv ← holding [v, ov] (eval ie X.env)
      standAt spos
      holding [v, ov, iv] (setItem ov iv v)
      release [v, ov, iv] []) := by intro _; rfl)
    (hs : swapsWithSole [.Subscript (.Attribute o f apos) ie spos] ve pos.line X.env = pure false := by rfl) (hw : swappedStores [.Subscript (.Attribute o f apos) ie spos] ve X.env = pure none := by rfl)
    (h1 : (assignEach [.Subscript (.Attribute o f apos) ie spos] X.env).map (·.2) = [assign (.Subscript (.Attribute o f apos) ie spos) X.env] := by rfl) :
    DN1 M W X i0 ir (.Assign [.Subscript (.Attribute o f apos) ie spos] ve pos) (nStore ir ix fv fk) := by
  obtain ⟨tv, pv, hv⟩ := di_frm hv
  obtain ⟨tk, pk, hk⟩ := di_frm hk
  refine ⟨_, ps_asg pv (pg_sub (pe_fld ho hb) pk (set_dict hu) ha) hs hw h1, fun c F H σ s s' E ⟨adr, cont, C, dx, fvs, k⟩ e q => ?_⟩
  obtain ⟨⟨d, δ1⟩, e1, e⟩ := Option.bind_eq_some_iff.mp e
  obtain ⟨⟨kd, δ2⟩, e2, e⟩ := Option.bind_eq_some_iff.mp e
  obtain ⟨f1, i1, r1⟩ := runI_eq e1
  obtain ⟨f2, i2, r2⟩ := runI_eq e2
  refine hv F H σ s.δ d δ1 _ k.bas.same k.bas.tb k.sl f1 i1 fun v F1 H1 st1 sl1 rv => ?_
  obtain ⟨j, kx, ks, ds, n1, n2, n3, n4, n5⟩ := nPut_inv e
  have k1 : NK c i0 ir F1 H1 σ { s with δ := δ1 } adr cont C dx fvs := k.step st1 sl1 rfl rfl r1
  obtain ⟨p, hp, hlk, hfo⟩ := fvs_look T k1 (j := j) n1 n3
  obtain ⟨t1, t2⟩ := (T s.n j n1).1 C k.G
  refine ⟨_, k1.i0, _, C, dx, fvs, p.2, rfl, k1.cel.at_ _ _ k1.sf, by rw [hK]; exact t1, by rw [hK]; exact t2, hlk, ?_⟩
  obtain ⟨ev, _⟩ := hfo
  rw [ev]
  refine hk F1 H1 σ δ1 kd δ2 _ k1.bas.same k1.bas.tb k1.sl f2 i2 fun kv F2 H2 st2 sl2 rk => ?_
  have k2 : NK c i0 ir F2 H2 σ { s with δ := δ2 } adr cont C dx fvs := k1.step st2 sl2 rfl rfl r2
  exact put_end (N := E.nx) ⟨_, _, _, _, _, k2⟩ (rep_mono st2.grow _ _ rv) rk e ⟨adr, cont, C, dx, fvs, j, k2, n1, rfl⟩ fun H' hk' => q F2 H' σ (st1.grow.trans st2.grow) hk'
/-! self.f[k] = e, e asks the row; its value is a number or the like -/
def nStoreR (ir : Nat) (ix : Nat → Option Nat) (fv fk : FD) : GN := fun s => (rowOf s).bind fun row => match fv (s.δ.set ir (some (.imm (.lst row)))) with
  | .ok d _ => if flatD d then (runI ir fk s.δ).bind fun q => nPut ix q.1 d { s with δ := q.2 } else none
  | _ => none
theorem SlI.setSame {F : Hp} {σ : St} {δ : Sl} (h : SlI (M := M) F σ δ) {i : Nat} {d : D} {v : V} (e : σ[i]? = some (some v)) (r : rep M F d v) : SlI (M := M) F σ (δ.set i (some (.imm d))) := by
  have := h.setI i r
  have e2 : σ.set i (some v) = σ := by
    apply List.ext_getElem?
    intro j
    by_cases hj : i = j
    · subst hj
      rw [List.getElem?_set_self (List.getElem?_eq_some_iff.mp e).1, e]
    · rw [List.getElem?_set_ne hj]
  rwa [e2] at this
theorem rep_flat2 {F F' : Hp} {d : D} {v : V} (hf : flatD d = true) (h : rep M F d v) : rep M F' d v := by
  cases d <;> simp [flatD] at hf <;> unfold rep at h ⊢ <;> exact h
theorem dn_storeR {o ie ve : Expr} {f : Str} {ix : Nat → Option Nat} {fv fk : FD} {pos apos spos : Pos} (T : FldT M f ix) (ho : PE X o (tVar i0)) (hv : DI M W X ve fv) (hk : DI M W X ie fk) (hu : X.A.units + 1 < cLine) (hK : X.K = M.K := by rfl)
    (hb : attributeBase o f X.env (eval o X.env) = eval o X.env := by rfl)
    (ha : ∀ v, assign (.Subscript (.Attribute o f apos) ie spos) X.env v = (do
      let ov ← holding [v] (eval (.Attribute o f apos) X.env)
      let iv ← holding [v, ov] (eval ie X.env)
      standAt spos
      holding [v, ov, iv] (setItem ov iv v)
      release [v, ov, iv] []) := by intro _; rfl)
    (hs : swapsWithSole [.Subscript (.Attribute o f apos) ie spos] ve pos.line X.env = pure false := by rfl) (hw : swappedStores [.Subscript (.Attribute o f apos) ie spos] ve X.env = pure none := by rfl)
    (h1 : (assignEach [.Subscript (.Attribute o f apos) ie spos] X.env).map (·.2) = [assign (.Subscript (.Attribute o f apos) ie spos) X.env] := by rfl) :
    DN1 M W X i0 ir (.Assign [.Subscript (.Attribute o f apos) ie spos] ve pos) (nStoreR ir ix fv fk) := by
  obtain ⟨tv, pv, hv⟩ := hv
  obtain ⟨tk, pk, hk⟩ := di_frm hk
  refine ⟨_, ps_asg pv (pg_sub (pe_fld ho hb) pk (set_dict hu) ha) hs hw h1, fun c F H σ s s' E ⟨adr, cont, C, dx, fvs, k⟩ e q => ?_⟩
  obtain ⟨row, e0, e⟩ := Option.bind_eq_some_iff.mp e
  split at e
  · rename_i d δ1 e1
    split at e
    · rename_i hfl
      obtain ⟨⟨kd, δ2⟩, e2, e⟩ := Option.bind_eq_some_iff.mp e
      obtain ⟨f2, i2, r2⟩ := runI_eq e2
      obtain ⟨jr, er, vs, al, a1, a2, c1, c2⟩ := k.row e0
      have hF : F (adr (.row jr er)) = none := k.cel.fr _ _ c1
      have hH := k.cel.at_ _ _ c1
      have g : Same F (upd F (adr (.row jr er)) (.lst vs)) := fun b o e => by rw [upd_ne (L2.ne_of_none e hF)]; exact e
      have sm : Same (upd F (adr (.row jr er)) (.lst vs)) H := fun b o e => by
        by_cases z : b = adr (.row jr er)
        · rw [z, upd_same] at e; cases e; rw [z]; exact hH
        · rw [upd_ne z] at e; exact k.bas.same b o e
      have sl : SlI (M := M) (upd F (adr (.row jr er)) (.lst vs)) σ (s.δ.set ir (some (.imm (.lst row)))) := (k.sl.mono g).setSame a1 (by unfold rep; exact ⟨_, vs, rfl, upd_same, reps_mono g _ _ c2⟩)
      refine hv (frm M _ H) _ H σ _ _ (sl.ok sm (k.bas.tb.frz hH rfl)) ?_
      rw [e1]
      intro v F1 H1 _ ok1 rv
      have rv0 : rep M F d v := rep_flat2 hfl rv
      have st0 := stp_back ok1
      have st1 : Stp M F H F H1 none := ⟨Same.refl _, fun _ _ _ _ e => e, st0.kept, fun b o e => st0.same b o (st0.grow b o (g b o e)), st0.tb.tab, k.bas.tb.fr, k.bas.tb.nt⟩
      obtain ⟨j, kx, ks, ds, n1, n2, n3, n4, n5⟩ := nPut_inv e
      have k1 : NK c i0 ir F H1 σ { s with δ := s.δ } adr cont C dx fvs := k.step st1 k.sl rfl rfl k.rn
      obtain ⟨p, hp, hlk, hfo⟩ := fvs_look T k1 (j := j) n1 n3
      obtain ⟨t1, t2⟩ := (T s.n j n1).1 C k.G
      refine ⟨_, k1.i0, _, C, dx, fvs, p.2, rfl, k1.cel.at_ _ _ k1.sf, by rw [hK]; exact t1, by rw [hK]; exact t2, hlk, ?_⟩
      obtain ⟨ev, _⟩ := hfo
      rw [ev]
      refine hk F H1 σ s.δ kd δ2 _ k1.bas.same k1.bas.tb k1.sl f2 i2 fun kv F2 H2 st2 sl2 rk => ?_
      have k2 : NK c i0 ir F2 H2 σ { s with δ := δ2 } adr cont C dx fvs := k1.step st2 sl2 rfl rfl r2
      exact put_end (N := E.nx) ⟨_, _, _, _, _, k2⟩ (rep_mono st2.grow _ _ rv0) rk e ⟨adr, cont, C, dx, fvs, j, k2, n1, rfl⟩ fun H' hk' => q F2 H' σ st2.grow hk'
    · cases e
  · cases e
/-! row.append(e) -/
def nApp (ir : Nat) (fe : FD) : GN := fun s => (runI ir fe s.δ).bind fun p => (rowOf s).bind fun row => if row.length < 16777216 then setRow { s with δ := p.2 } (row ++ [p.1]) else none
theorem dn_app {o e : Expr} {fe : FD} {pos apos cpos : Pos} (ho : PE X o (tVar ir)) (he : DI M W X e fe) (hK : X.K = M.K := by rfl)
    (hb : attributeBase o "append" X.env (eval o X.env) = eval o X.env := by rfl) (hfew : ((backTo cpos (starEach (e :: []) X.env)).all (fun x => !x.1) && (backToKw cpos (keywordEach [] X.env)).all (fun x => x.1.isSome) && decide ((e :: []).length + ([] : List Keyword).length + (if ([] : List Keyword).isEmpty then 0 else 1) < 30)) = true := by rfl) (hl : (apos.endLine == cpos.line) = true := by rfl)
    (hst : starEach (e :: []) X.env = (false, eval e X.env) :: starEach [] X.env := by rfl) (hpl : (backTo cpos (starEach [] X.env)).any (·.1) = false := by rfl) (hs : swapsWith (.Call (.Attribute o "append" apos) [e] [] cpos) none pos.line X.env = pure false := by rfl) :
    DN1 M W X i0 ir (.Expr (.Call (.Attribute o "append" apos) [e] [] cpos) pos) (nApp ir fe) := by
  obtain ⟨te, pe, he⟩ := di_frm he
  refine ⟨_, ps_expr (pe_bm PySem.F.plainAttrs_list PySem.F.slot_list_append PySem.F.type_list_append mt_append ho (pa_cons pe pa_nil hst) hb hfew hl hst hpl) hs, fun c F H σ s s' E ⟨adr, cont, C, dx, fvs, k⟩ e q => ?_⟩
  obtain ⟨⟨d, δ1⟩, e1, e⟩ := Option.bind_eq_some_iff.mp e
  obtain ⟨row, e0, e⟩ := Option.bind_eq_some_iff.mp e
  split at e
  · rename_i hlen
    obtain ⟨f1, i1, r1⟩ := runI_eq e1
    obtain ⟨jr, er, vs, al, a1, a2, c1, c2⟩ := k.row e0
    refine ⟨_, a1, .inl ⟨rfl, vs, SqL.of (k.cel.at_ _ _ c1)⟩, he F H σ s.δ d δ1 _ k.bas.same k.bas.tb k.sl f1 i1 fun v F1 H1 st1 sl1 rv => ?_⟩
    have k1 : NK c i0 ir F1 H1 σ { s with δ := δ1 } adr cont C dx fvs := k.step st1 sl1 rfl rfl r1
    refine ⟨_, vs, v, rfl, rfl, k1.cel.at_ _ _ c1, by rw [reps_length c2, sizeLine_eq]; exact hlen, ?_⟩
    exact q F1 _ σ st1.grow ⟨_, _, _, _, _, k1.setRow (s := { s with δ := δ1 }) al (reps_append (reps_mono st1.grow _ _ c2) (reps_cons rv reps_nil)) e⟩
  · cases e
end
end
end TS

set_option maxRecDepth 100000
set_option maxHeartbeats 4000000
/-! TSp: setdefault, new dicts, loops over them; the object as data at the end. -/
namespace TS
open PySem L2
noncomputable section
section
variable {M : Gm} {W : WX} {X : Cx} {i0 ir : Nat} {c : Cn M} {F F' H H' : Hp} {σ σ' : St} {s : NS} {adr adr' : Adr} {cont cont' : Con} {C dx : Addr} {fvs : List (Str × V)}
theorem rowsOk.congr {κ : Type} {mk : List (κ × V) → HO} {j : Nat} {L : List (κ × List D)} {v : V} (h : rowsOk M F adr cont j mk L v) (h1 : adr' (.fld j) = adr (.fld j)) (h2 : ∀ e, adr' (.row j e) = adr (.row j e)) (h3 : cont' (.fld j) = cont (.fld j)) (h4 : ∀ e, cont' (.row j e) = cont (.row j e)) : rowsOk M F adr' cont' j mk L v := by
  obtain ⟨k1, ⟨kvs, k2, k3, k4⟩, k5, k6⟩ := h
  refine ⟨by rw [h1]; exact k1, ⟨kvs, by rw [h3]; exact k2, k3, fun e kv he => by rw [h2]; exact k4 e kv he⟩, fun e x hx => ?_, fun e he => by rw [h4]; exact k6 e he⟩
  obtain ⟨vs, l1, l2⟩ := k5 e x hx
  exact ⟨vs, by rw [h4]; exact l1, l2⟩
theorem fldOk.congr {j : Nat} {f : NF} {v : V} (h : fldOk M F adr cont j f v) (h1 : adr' (.fld j) = adr (.fld j)) (h2 : ∀ e, adr' (.row j e) = adr (.row j e)) (h3 : cont' (.fld j) = cont (.fld j)) (h4 : ∀ e, cont' (.row j e) = cont (.row j e)) : fldOk M F adr' cont' j f v := by
  cases f with
  | d x => exact h
  | dk ks ds =>
    obtain ⟨k1, kvs, k2, k3, k4⟩ := h
    exact ⟨by rw [h1]; exact k1, kvs, by rw [h3]; exact k2, k3, k4⟩
  | rk L => exact rowsOk.congr h h1 h2 h3 h4
  | rt L => exact rowsOk.congr h h1 h2 h3 h4
/-! self.f = {} -/
def nNew (ix : Nat → Option Nat) (f0 : NF) : GN := fun s => (ix s.n).bind fun j => if j = s.fs.length then some { s with fs := s.fs ++ [f0] } else none
theorem putF_new2 {f : Str} {v : V} : ∀ {fs : List (Str × V)}, f ∉ fs.map (·.1) → putF f v fs = fs ++ [(f, v)]
  | [], _ => rfl
  | (g, x) :: r, h => by
    have h1 : g ≠ f := fun z => h (by simp [z])
    have h2 : f ∉ r.map (·.1) := fun z => h (by simp at z ⊢; exact .inr z)
    show (if g = f then (g, v) :: r else (g, x) :: putF f v r) = _
    rw [if_neg h1, putF_new2 h2]; rfl
theorem new_core {f : Str} {ix : Nat → Option Nat} (T : FldT M f ix) (k : NK c i0 ir F H σ s adr cont C dx fvs) {j : Nat} (hj : ix s.n = some j) (hl : j = s.fs.length) {p : Addr} (hp : H p = none) {o : HO} {f0 : NF} (h0 : ∀ (adr : Adr) (cont : Con), adr (.fld j) = p → cont (.fld j) = some o → (∀ e, cont (.row j e) = none) → fldOk M F adr cont j f0 (.ref p)) (hno : NT o := by first | rfl | assumption) :
    H (adr .self) = some (.ins C dx fvs) ∧ (upd H p o) (adr .self) = some (.ins C dx fvs) ∧ NOk c i0 ir F (upd (upd H p o) (adr .self) (.ins C dx (putF f (.ref p) fvs))) σ { s with fs := s.fs ++ [f0] } := by
  subst hl
  obtain ⟨_, t1, t2⟩ := T s.n _ hj
  have hn : f ∉ fvs.map (·.1) := by rw [k.nm]; exact t2
  obtain ⟨n1, n2⟩ := k.no s.fs.length (Nat.le_refl _)
  have hs := k.cel.at_ _ _ k.sf
  have c1 := Cells.new (o := o) k.bas k.cel (p := .fld s.fs.length) (by intro z; cases z) n1 hp hno
  have b1 : NBas c F (upd H p o) := k.bas.stp (stp_alloc k.bas.same k.bas.tb hp)
  have sf1 : setC cont (.fld s.fs.length) (some o) .self = some (.ins C dx fvs) := by rw [setC_ne (by intro z; cases z)]; exact k.sf
  have ea : setC adr (.fld s.fs.length) p .self = adr .self := setC_ne (by intro z; cases z)
  have c2 := c1.put (o' := .ins C dx (putF f (.ref p) fvs)) sf1
  have b2 := b1.put c1 (o' := .ins C dx (putF f (.ref p) fvs)) sf1
  rw [ea] at c2 b2
  refine ⟨hs, by rw [upd_ne (L2.ne_of_none hs hp)]; exact hs, setC adr (.fld s.fs.length) p, _, C, dx, fvs ++ [(f, .ref p)], b2, c2, k.sl, k.G, ?_, ?_, ?_, fun j f' q e1 e2 => ?_, fun j hj' => ?_, ?_, k.rn, fun j e he => ?_⟩
  · rw [setC_same, putF_new2 hn]
  · show (fvs ++ [(f, V.ref p)]).map (·.1) = (M.nm s.n).take (s.fs ++ [f0]).length
    rw [List.length_append, List.length_singleton, List.map_append, k.nm, List.take_add_one, t1]; rfl
  · simp [k.ln]
  · by_cases hlt : j < s.fs.length
    · rw [List.getElem?_append_left hlt] at e1
      rw [List.getElem?_append_left (by rw [k.ln]; exact hlt)] at e2
      have ne : j ≠ s.fs.length := by omega
      refine (k.fl j f' q e1 e2).congr (setC_ne (by intro z; cases z; exact ne rfl)) (fun e => setC_ne (by intro z; cases z)) ?_ (fun e => ?_)
      · rw [setC_ne (by intro z; cases z), setC_ne (by intro z; cases z; exact ne rfl)]
      · rw [setC_ne (by intro z; cases z), setC_ne (by intro z; cases z)]
    · have hj2 : j = s.fs.length := by
        have := (List.getElem?_eq_some_iff.mp e1).1
        rw [List.length_append, List.length_singleton] at this
        omega
      subst hj2
      rw [List.getElem?_append_right (Nat.le_refl _)] at e1
      rw [List.getElem?_append_right (by rw [k.ln]; exact Nat.le_refl _)] at e2
      simp at e1
      simp [k.ln] at e2
      subst e1; subst e2
      exact h0 _ _ (setC_same _ _ _) (by rw [setC_ne (by intro z; cases z)]; exact setC_same _ _ _) (fun e => by rw [setC_ne (by intro z; cases z), setC_ne (by intro z; cases z)]; exact n2 e)
  · simp only [List.length_append, List.length_singleton] at hj'
    obtain ⟨m1, m2⟩ := k.no j (by omega)
    refine ⟨?_, fun e => ?_⟩
    · rw [setC_ne (by intro z; cases z), setC_ne (by intro z; cases z; omega)]; exact m1
    · rw [setC_ne (by intro z; cases z), setC_ne (by intro z; cases z)]; exact m2 e
  · rw [ea]; exact k.i0
  · rw [setC_ne (by intro z; cases z)]; exact k.al j e he
def newOk (o : HO) (f0 : NF) : Prop := NT o ∧ ∀ (M : Gm) (F : Hp) (adr : Adr) (cont : Con) (j : Nat), cont (.fld j) = some o → (∀ e, cont (.row j e) = none) → fldOk M F adr cont j f0 (.ref (adr (.fld j)))
theorem newOk_dk : newOk (.dK []) (.dk [] []) := ⟨rfl, fun M F adr cont j h _ => ⟨rfl, [], h, rfl, by simp [reps]⟩⟩
theorem newOk_rk : newOk (.dK []) (.rk []) := ⟨rfl, fun M F adr cont j h h2 => ⟨rfl, ⟨[], h, rfl, fun e kv he => by simp at he⟩, fun e x hx => by simp at hx, fun e _ => h2 e⟩⟩
theorem newOk_rt : newOk (.dT []) (.rt []) := ⟨rfl, fun M F adr cont j h h2 => ⟨rfl, ⟨[], h, rfl, fun e kv he => by simp at he⟩, fun e x hx => by simp at hx, fun e _ => h2 e⟩⟩
theorem dn_new {o e : Expr} {f : Str} {ix : Nat → Option Nat} {pos pos' : Pos} {ho : HO} {f0 : NF} {te : TE} (hte : PE X e te) (hnew : ∀ σ H Q, (∀ p, H p = none → Q (.ref p) (upd H p ho)) → te σ H Q) (hok : newOk ho f0) (T : FldT M f ix) (hlen : ∀ n, (M.nm n).length < 1000) (hov : PE X o (tVar i0)) (hK : X.K = M.K := by rfl) (hs : swapsWith e (some (.Attribute o f pos')) pos.line X.env = pure false := by rfl) :
    DN1 M W X i0 ir (.Assign [.Attribute o f pos'] e pos) (nNew ix f0) := by
  refine ⟨_, ps_fld hov hte hs, fun c F H σ s s' E ⟨adr, cont, C, dx, fvs, k⟩ e q => hnew σ H _ fun p hp => ?_⟩
  obtain ⟨j, hj, e⟩ := Option.bind_eq_some_iff.mp e
  split at e
  · rename_i hl
    cases e
    obtain ⟨h1, h2, h3⟩ := new_core T k hj hl hp (fun adr cont e1 e2 e3 => by rw [← e1]; exact hok.2 M F adr cont j e2 e3) hok.1
    obtain ⟨t1, t2⟩ := (T s.n j hj).1 C k.G
    refine ⟨_, k.i0, _, C, dx, fvs, rfl, h2, by rw [hK]; exact t1, by rw [hK]; exact t2, ?_, q F _ σ (Same.refl _) h3⟩
    have := congrArg List.length k.nm
    rw [List.length_map, List.length_take] at this
    have := hlen s.n
    omega
  · cases e
/-! row = self.f.setdefault(k, []) -/
theorem val_idx {κ : Type} [DecidableEq κ] : ∀ {kvs : List (κ × V)} {L : List (κ × List D)} (k : κ), kvs.map (·.1) = L.map (·.1) → (∀ e, L.findIdx? (fun x => decide (x.1 = k)) = some e → ∃ kv, kvs[e]? = some kv ∧ valV kvs k = some kv.2 ∧ e < L.length) ∧ (L.findIdx? (fun x => decide (x.1 = k)) = none → valV kvs k = none ∧ ∀ v, putK kvs k v = kvs ++ [(k, v)])
  | [], [], k, _ => ⟨fun e h => by simp at h, fun _ => ⟨rfl, fun v => rfl⟩⟩
  | [], x :: L, k, h => by simp at h
  | p :: kvs, [], k, h => by simp at h
  | p :: kvs, x :: L, k, h => by
    simp only [List.map_cons, List.cons.injEq] at h
    obtain ⟨ih1, ih2⟩ := val_idx k h.2
    by_cases z : x.1 = k
    · have z' : p.1 = k := h.1.trans z
      constructor
      · intro e he
        simp [List.findIdx?_cons, z] at he
        subst he
        exact ⟨p, rfl, by simp [valV, List.find?_cons, z'], by simp⟩
      · intro he
        simp [List.findIdx?_cons, z] at he
    · have z' : ¬ p.1 = k := fun q => z (h.1.symm.trans q)
      constructor
      · intro e he
        simp only [List.findIdx?_cons, decide_eq_false z] at he
        simp only [Bool.false_eq_true, if_false, Option.map_eq_some_iff] at he
        obtain ⟨e', he', rfl⟩ := he
        obtain ⟨kv, k1, k2, k3⟩ := ih1 e' he'
        exact ⟨kv, by simpa using k1, by unfold valV at k2 ⊢; simp only [List.find?_cons, decide_eq_false z']; exact k2, by simp; omega⟩
      · intro he
        simp only [List.findIdx?_cons, decide_eq_false z] at he
        simp only [Bool.false_eq_true, if_false, Option.map_eq_none_iff] at he
        obtain ⟨k1, k2⟩ := ih2 he
        refine ⟨by unfold valV at k1 ⊢; simp only [List.find?_cons, decide_eq_false z']; exact k1, fun v => ?_⟩
        have k3 := k2 v
        unfold putK at k3 ⊢
        have hany : (kvs.any fun kv => decide (kv.1 = k)) = false := by
          cases q : kvs.any fun kv => decide (kv.1 = k) with
          | false => rfl
          | true =>
            rw [q, if_pos rfl] at k3
            have := congrArg List.length k3
            simp at this
        rw [List.any_cons, decide_eq_false z', hany]
        rfl
theorem SlI.setNone {δ : Sl} (h : SlI (M := M) F σ δ) {i : Nat} {x : Option V} (e : δ[i]? = some none) : SlI (M := M) F (σ.set i x) δ := ⟨by simp [h.len], fun j r e' => by
  have hn : i ≠ j := fun z => by rw [z, e'] at e; cases e
  rw [List.getElem?_set_ne hn]
  exact h.at_ j r e'⟩
def nSetd {κ : Type} [DecidableEq κ] (ir : Nat) (ix : Nat → Option Nat) (fk : FD) (key : D → Option κ) (un : NF → Option (List (κ × List D))) (mkf : List (κ × List D) → NF) : GN := fun s => (runI ir fk s.δ).bind fun p => (ix s.n).bind fun j => (key p.1).bind fun k => (s.fs[j]?).bind fun f => (un f).bind fun L => if L.length < 16777216 then (match L.findIdx? (fun x => decide (x.1 = k)) with
  | some e => some { s with δ := p.2, al := some (j, e) }
  | none => some { s with δ := p.2, fs := s.fs.set j (mkf (L ++ [(k, [])])), al := some (j, L.length) }) else none
theorem rowsOk.grow {κ : Type} {mk : List (κ × V) → HO} {j : Nat} {L : List (κ × List D)} {v : V} {k : κ} {p : Addr} {kvs : List (κ × V)} (h : rowsOk M F adr cont j mk L v) (hm : ∀ a b, mk a = mk b → a = b) (hc : cont (.fld j) = some (mk kvs)) :
    rowsOk M F (setC adr (.row j L.length) p) (setC (setC cont (.row j L.length) (some (.lst []))) (.fld j) (some (mk (kvs ++ [(k, .ref p)])))) j mk (L ++ [(k, [])]) v := by
  obtain ⟨k1, ⟨kvs', k2, k3, k4⟩, k5, k6⟩ := h
  rw [hc] at k2
  have := hm _ _ (Option.some.inj k2)
  subst this
  have hll : kvs.length = L.length := by have := congrArg List.length k3; simpa using this
  refine ⟨by rw [setC_ne (by intro z; cases z)]; exact k1, ⟨_, setC_same _ _ _, by simp [k3], fun e kv he => ?_⟩, fun e x hx => ?_, fun e he => ?_⟩
  · by_cases hlt : e < L.length
    · rw [List.getElem?_append_left (by omega)] at he
      rw [setC_ne (by intro z; cases z; omega)]; exact k4 e kv he
    · have : e = L.length := by
        have := (List.getElem?_eq_some_iff.mp he).1
        simp at this; omega
      subst this
      rw [List.getElem?_append_right (by omega)] at he
      simp [hll] at he
      subst he
      rw [setC_same]
  · by_cases hlt : e < L.length
    · rw [List.getElem?_append_left hlt] at hx
      obtain ⟨vs, l1, l2⟩ := k5 e x hx
      exact ⟨vs, by rw [setC_ne (by intro z; cases z), setC_ne (by intro z; cases z; omega)]; exact l1, l2⟩
    · have : e = L.length := by
        have := (List.getElem?_eq_some_iff.mp hx).1
        simp at this; omega
      subst this
      rw [List.getElem?_append_right (Nat.le_refl _)] at hx
      simp at hx
      subst hx
      exact ⟨[], by rw [setC_ne (by intro z; cases z)]; exact setC_same _ _ _, by simp [reps]⟩
  · simp at he
    rw [setC_ne (by intro z; cases z), setC_ne (by intro z; cases z; omega)]
    exact k6 e (by omega)
/-- what follows the dict's answer -/
theorem setd_found (k : NK c i0 ir F H σ s adr cont C dx fvs) (hir : i0 ≠ ir) {j e : Nat} : NOk c i0 ir F H (σ.set ir (some (.ref (adr (.row j e))))) { s with al := some (j, e) } :=
  ⟨adr, cont, C, dx, fvs, k.bas, k.cel, k.sl.setNone k.rn, k.G, k.sf, k.nm, k.ln, k.fl, k.no, by rw [List.getElem?_set_ne (Ne.symm hir)]; exact k.i0, k.rn, fun j' e' h => by
    cases h
    exact List.getElem?_set_self (by rw [k.sl.len]; exact (List.getElem?_eq_some_iff.mp k.rn).1)⟩
theorem setd_new {κ : Type} [DecidableEq κ] {mk : List (κ × V) → HO} (hm : ∀ a b, mk a = mk b → a = b) (hmn : ∀ a, NT (mk a)) (k : NK c i0 ir F H σ s adr cont C dx fvs) (hir : i0 ≠ ir) {j : Nat} {nf : NF} {pv : Str × V} {L : List (κ × List D)} {kk : κ} {p : Addr} {kvs : List (κ × V)} {mkf : List (κ × List D) → NF} (hj : s.fs[j]? = some nf) (hpv : fvs[j]? = some pv) (hr : rowsOk M F adr cont j mk L pv.2) (hc : cont (.fld j) = some (mk kvs)) (hp : H p = none)
    (hf : ∀ adr cont L v, rowsOk M F adr cont j mk L v → fldOk M F adr cont j (mkf L) v) : NOk c i0 ir F (upd (upd H p (.lst [])) (adr (.fld j)) (mk (kvs ++ [(kk, .ref p)]))) (σ.set ir (some (.ref p))) { s with fs := s.fs.set j (mkf (L ++ [(kk, [])])), al := some (j, L.length) } := by
  have n1 : cont (.row j L.length) = none := hr.2.2.2 _ (Nat.le_refl _)
  have c1 := Cells.new (o := .lst []) k.bas k.cel (p := .row j L.length) (by intro z; cases z) n1 hp
  have b1 : NBas c F (upd H p (.lst [])) := k.bas.stp (stp_alloc k.bas.same k.bas.tb hp)
  have hc1 : setC cont (.row j L.length) (some (.lst [])) (.fld j) = some (mk kvs) := by rw [setC_ne (by intro z; cases z)]; exact hc
  have ea : setC adr (.row j L.length) p (.fld j) = adr (.fld j) := setC_ne (by intro z; cases z)
  have c2 := c1.put (o' := mk (kvs ++ [(kk, .ref p)])) hc1 (hmn _)
  have b2 := b1.put c1 (o' := mk (kvs ++ [(kk, .ref p)])) hc1 (hmn _)
  rw [ea] at c2 b2
  have hlt : j < s.fs.length := (List.getElem?_eq_some_iff.mp hj).1
  refine ⟨_, _, C, dx, fvs, b2, c2, k.sl.setNone k.rn, k.G, ?_, ?_, ?_, fun j' f' q e1 e2 => ?_, fun j' hj' => ?_, ?_, k.rn, fun j' e he => ?_⟩
  · rw [setC_ne (by intro z; cases z), setC_ne (by intro z; cases z)]; exact k.sf
  · simp only [List.length_set]; exact k.nm
  · simp only [List.length_set]; exact k.ln
  · rcases getElem?_set_cases e1 with ⟨z, z2⟩ | ⟨z, e1⟩
    · subst z; subst z2
      rw [hpv] at e2; cases e2
      exact hf _ _ _ _ (rowsOk.grow hr hm hc)
    · refine (k.fl j' f' q e1 e2).congr (setC_ne (by intro z; cases z)) (fun e => setC_ne (by intro w; cases w; exact z rfl)) ?_ (fun e => ?_)
      · rw [setC_ne (by intro w; cases w; exact z rfl), setC_ne (by intro w; cases w)]
      · rw [setC_ne (by intro w; cases w), setC_ne (by intro w; cases w; exact z rfl)]
  · simp only [List.length_set] at hj'
    obtain ⟨m1, m2⟩ := k.no j' hj'
    refine ⟨?_, fun e => ?_⟩
    · rw [setC_ne (by intro z; cases z; omega), setC_ne (by intro z; cases z)]; exact m1
    · rw [setC_ne (by intro z; cases z), setC_ne (by intro z; cases z; omega)]; exact m2 e
  · rw [setC_ne (by intro z; cases z), List.getElem?_set_ne (Ne.symm hir)]; exact k.i0
  · cases he
    rw [setC_same]
    exact List.getElem?_set_self (by rw [k.sl.len]; exact (List.getElem?_eq_some_iff.mp k.rn).1)
end
end
end TS

set_option maxRecDepth 100000
set_option maxHeartbeats 4000000
/-! TSq: setdefault as a statement; pairs, loops, tests; from slots to cells and back. -/
namespace TS
open PySem L2
noncomputable section
def unK : NF → Option (List (Key × List D))
  | .rk L => some L
  | _ => none
def unT : NF → Option (List (List Key × List D))
  | .rt L => some L
  | _ => none
def keyT : D → Option (List Key)
  | .tup ds => keysOf ds
  | _ => none
abbrev nSetdK (ir : Nat) (ix : Nat → Option Nat) (fk : FD) : GN := nSetd ir ix fk keyOf unK NF.rk
abbrev nSetdT (ir : Nat) (ix : Nat → Option Nat) (fk : FD) : GN := nSetd ir ix fk keyT unT NF.rt
section
variable {M : Gm} {W : WX} {X : Cx} {i0 ir : Nat}
theorem nSetd_inv {κ : Type} [DecidableEq κ] {ix : Nat → Option Nat} {fk : FD} {key : D → Option κ} {un : NF → Option (List (κ × List D))} {mkf : List (κ × List D) → NF} {s s' : NS} (h : nSetd ir ix fk key un mkf s = some s') : ∃ kd δ' j k f L, runI ir fk s.δ = some (kd, δ') ∧ ix s.n = some j ∧ key kd = some k ∧ s.fs[j]? = some f ∧ un f = some L ∧ L.length < 16777216 ∧ ((∃ e, L.findIdx? (fun x => decide (x.1 = k)) = some e ∧ s' = { s with δ := δ', al := some (j, e) }) ∨ (L.findIdx? (fun x => decide (x.1 = k)) = none ∧ s' = { s with δ := δ', fs := s.fs.set j (mkf (L ++ [(k, [])])), al := some (j, L.length) })) := by
  unfold nSetd at h
  obtain ⟨⟨kd, δ'⟩, h1, h⟩ := Option.bind_eq_some_iff.mp h
  obtain ⟨j, h2, h⟩ := Option.bind_eq_some_iff.mp h
  obtain ⟨k, h3, h⟩ := Option.bind_eq_some_iff.mp h
  obtain ⟨f, h4, h⟩ := Option.bind_eq_some_iff.mp h
  obtain ⟨L, h5, h⟩ := Option.bind_eq_some_iff.mp h
  split at h
  · rename_i hl
    refine ⟨kd, δ', j, k, f, L, h1, h2, h3, h4, h5, hl, ?_⟩
    split at h
    · rename_i e he; cases h; exact .inl ⟨e, he, rfl⟩
    · rename_i he; cases h; exact .inr ⟨he, rfl⟩
  · cases h
theorem dn_setdK {o ke : Expr} {f : Str} {x : Str} {ix : Nat → Option Nat} {fk : FD} {pos npos apos bpos cpos lpos : Pos} (T : FldT M f ix) (hir : i0 ≠ ir) (hN : X.N.Nodup) (hi : X.N[ir]? = some x) (hx : Loc X.env.scope x) (ho : PE X o (tVar i0)) (hk : DI M W X ke fk) (hK : X.K = M.K := by rfl)
    (hb : attributeBase o f X.env (eval o X.env) = eval o X.env := by rfl) (m : M2 X (.Attribute o f apos) "setdefault" bpos ke (.List [] lpos) cpos := by exact ⟨rfl, rfl, rfl, rfl⟩)
    (hs : swapsWith (.Call (.Attribute (.Attribute o f apos) "setdefault" bpos) [ke, .List [] lpos] [] cpos) (some (.Name x npos)) pos.line X.env = pure false := by rfl) (hf : X.fn x = true ∨ X.env.scope.names.lookup x = some .local := by first | exact .inl rfl | exact .inr rfl | assumption) :
    DN1 M W X i0 ir (.Assign [.Name x npos] (.Call (.Attribute (.Attribute o f apos) "setdefault" bpos) [ke, .List [] lpos] [] cpos) pos) (nSetdK ir ix fk) := by
  obtain ⟨tk, pk, hk⟩ := di_frm hk
  refine ⟨_, ps_set hN hi hx (pe_dsetd (pe_fld ho hb) pk (pe_lst pa_nil) m) hs hf, fun c F H σ s s' E ⟨adr, cont, C, dx, fvs, k⟩ e q => ?_⟩
  obtain ⟨kd, δ', j, kk, nf, L, e1, e2, e3, e4, e5, e6, e7⟩ := nSetd_inv e
  obtain ⟨f1, i1, r1⟩ := runI_eq e1
  obtain ⟨p, hp, hlk, hfo⟩ := fvs_look T k (j := j) e2 e4
  obtain ⟨t1, t2⟩ := (T s.n j e2).1 C k.G
  cases nf with
  | d x => cases e5
  | dk ks ds => cases e5
  | rt L' => cases e5
  | rk L' =>
    cases e5
    have hfo' : rowsOk M F adr cont j HO.dK L p.2 := hfo
    obtain ⟨ev, ⟨kvs, c1, c2, c3⟩, _, _⟩ := hfo'
    refine ⟨_, k.i0, _, C, dx, fvs, p.2, rfl, k.cel.at_ _ _ k.sf, by rw [hK]; exact t1, by rw [hK]; exact t2, hlk, adr (.fld j), ev, .inl ⟨kvs, .inl (k.cel.at_ _ _ c1)⟩, ?_⟩
    refine hk F H σ s.δ kd δ' _ k.bas.same k.bas.tb k.sl f1 i1 fun kv F1 H1 st1 sl1 rk => ⟨Nat.zero_le _, fun pp hpp => ?_⟩
    have k1 : NK c i0 ir F1 H1 σ { s with δ := δ' } adr cont C dx fvs := k.step st1 sl1 rfl rfl r1
    have ek := keyOf_v (M := M) (H := H1) (.inl rk) e3
    have hfld := k1.cel.at_ _ _ c1
    have hll : kvs.length = L.length := by have := congrArg List.length c2; simpa using this
    obtain ⟨v1, v2⟩ := val_idx kk c2
    refine ⟨kvs, kk, by rw [upd_ne (L2.ne_of_none hfld hpp)]; exact hfld, ek, by rw [hll, sizeLine_eq]; exact e6, fun v hv => ?_, fun hv => ?_⟩
    · rcases e7 with ⟨ex, h1, rfl⟩ | ⟨h1, _⟩
      · obtain ⟨kv', l1, l2, _⟩ := v1 ex h1
        rw [hv] at l2; cases l2
        rw [c3 ex kv' l1]
        have k2 : NK c i0 ir F1 (upd H1 pp (.lst [])) σ { s with δ := δ' } adr cont C dx fvs := k1.step (stp_alloc k1.bas.same k1.bas.tb hpp) k1.sl rfl rfl r1
        exact q F1 _ _ st1.grow (setd_found k2 hir)
      · rw [(v2 h1).1] at hv; cases hv
    · rcases e7 with ⟨ex, h1, _⟩ | ⟨h1, rfl⟩
      · obtain ⟨kv', l1, l2, _⟩ := v1 ex h1
        rw [hv] at l2; cases l2
      · rw [(v2 h1).2]
        exact q F1 _ _ st1.grow (setd_new (mk := HO.dK) (mkf := NF.rk) (fun a b h => by cases h; rfl) (fun _ => rfl) k1 hir e4 hp (hfo.mono st1.grow) c1 hpp (fun _ _ _ _ h => h))
theorem dn_setdT {o ke : Expr} {f : Str} {x : Str} {ix : Nat → Option Nat} {fk : FD} {pos npos apos bpos cpos lpos : Pos} (T : FldT M f ix) (hu : X.A.units + 1 < cLine) (hir : i0 ≠ ir) (hN : X.N.Nodup) (hi : X.N[ir]? = some x) (hx : Loc X.env.scope x) (ho : PE X o (tVar i0)) (hk : DI M W X ke fk) (hK : X.K = M.K := by rfl)
    (hb : attributeBase o f X.env (eval o X.env) = eval o X.env := by rfl) (m : M2 X (.Attribute o f apos) "setdefault" bpos ke (.List [] lpos) cpos := by exact ⟨rfl, rfl, rfl, rfl⟩)
    (hs : swapsWith (.Call (.Attribute (.Attribute o f apos) "setdefault" bpos) [ke, .List [] lpos] [] cpos) (some (.Name x npos)) pos.line X.env = pure false := by rfl) (hf : X.fn x = true ∨ X.env.scope.names.lookup x = some .local := by first | exact .inl rfl | exact .inr rfl | assumption) :
    DN1 M W X i0 ir (.Assign [.Name x npos] (.Call (.Attribute (.Attribute o f apos) "setdefault" bpos) [ke, .List [] lpos] [] cpos) pos) (nSetdT ir ix fk) := by
  obtain ⟨tk, pk, hk⟩ := di_frm hk
  refine ⟨_, ps_set hN hi hx (pe_dsetdT hu (pe_fld ho hb) pk (pe_lst pa_nil) m) hs hf, fun c F H σ s s' E ⟨adr, cont, C, dx, fvs, k⟩ e q => ?_⟩
  obtain ⟨kd, δ', j, kk, nf, L, e1, e2, e3, e4, e5, e6, e7⟩ := nSetd_inv e
  obtain ⟨f1, i1, r1⟩ := runI_eq e1
  obtain ⟨p, hp, hlk, hfo⟩ := fvs_look T k (j := j) e2 e4
  obtain ⟨t1, t2⟩ := (T s.n j e2).1 C k.G
  cases nf with
  | d x => cases e5
  | dk ks ds => cases e5
  | rk L' => cases e5
  | rt L' =>
    cases e5
    have hfo' : rowsOk M F adr cont j HO.dT L p.2 := hfo
    obtain ⟨ev, ⟨kvs, c1, c2, c3⟩, _, _⟩ := hfo'
    refine ⟨_, k.i0, _, C, dx, fvs, p.2, rfl, k.cel.at_ _ _ k.sf, by rw [hK]; exact t1, by rw [hK]; exact t2, hlk, adr (.fld j), ev, .inr ⟨kvs, .inl (k.cel.at_ _ _ c1)⟩, ?_⟩
    refine hk F H σ s.δ kd δ' _ k.bas.same k.bas.tb k.sl f1 i1 fun kv F1 H1 st1 sl1 rk => ⟨Nat.zero_le _, fun pp hpp => ?_⟩
    have k1 : NK c i0 ir F1 H1 σ { s with δ := δ' } adr cont C dx fvs := k.step st1 sl1 rfl rfl r1
    cases kd with
    | tup kds =>
      unfold rep at rk
      obtain ⟨b, vs, rfl, hb1, hb2⟩ := rk
      have ek := keysOf_v hb2 e3
      subst ek
      have hb3 := k1.bas.same _ _ hb1
      have hfld := k1.cel.at_ _ _ c1
      have hll : kvs.length = L.length := by have := congrArg List.length c2; simpa using this
      obtain ⟨v1, v2⟩ := val_idx kk c2
      refine ⟨kvs, kk, b, by rw [upd_ne (L2.ne_of_none hfld hpp)]; exact hfld, rfl, by rw [upd_ne (L2.ne_of_none hb3 hpp)]; exact hb3, by rw [hll, sizeLine_eq]; exact e6, fun v hv => ?_, fun hv => ?_⟩
      · rcases e7 with ⟨ex, h1, rfl⟩ | ⟨h1, _⟩
        · obtain ⟨kv', l1, l2, _⟩ := v1 ex h1
          rw [hv] at l2; cases l2
          rw [c3 ex kv' l1]
          have k2 : NK c i0 ir F1 (upd H1 pp (.lst [])) σ { s with δ := δ' } adr cont C dx fvs := k1.step (stp_alloc k1.bas.same k1.bas.tb hpp) k1.sl rfl rfl r1
          exact q F1 _ _ st1.grow (setd_found k2 hir)
        · rw [(v2 h1).1] at hv; cases hv
      · rcases e7 with ⟨ex, h1, _⟩ | ⟨h1, rfl⟩
        · obtain ⟨kv', l1, l2, _⟩ := v1 ex h1
          rw [hv] at l2; cases l2
        · rw [(v2 h1).2]
          exact q F1 _ _ st1.grow (setd_new (mk := HO.dT) (mkf := NF.rt) (fun a b h => by cases h; rfl) (fun _ => rfl) k1 hir e4 hp (hfo.mono st1.grow) c1 hpp (fun _ _ _ _ h => h))
    | _ => cases e3
/-! a, b = e -/
def set2 (i j : Nat) (x y : D) (δ : Sl) : Sl := (δ.set i (some (.imm x))).set j (some (.imm y))
def nAsg2 (ir i j : Nat) (fe : FD) : GN := fun s => (runI ir fe s.δ).bind fun p => match p.1 with
  | .tup [x, y] => some { s with δ := set2 i j x y p.2 }
  | _ => none
theorem NK.set2 {c : Cn M} {F H : Hp} {σ : St} {s : NS} {adr : Adr} {cont : Con} {C dx : Addr} {fvs : List (Str × V)} (k : NK c i0 ir F H σ s adr cont C dx fvs) {i j : Nat} {x y : D} {v w : V} (hi : i ≠ i0 ∧ i ≠ ir) (hj : j ≠ i0 ∧ j ≠ ir) (rx : rep M F x v) (ry : rep M F y w) : NK c i0 ir F H ((σ.set i (some v)).set j (some w)) { s with δ := TS.set2 i j x y s.δ } adr cont C dx fvs :=
  ⟨k.bas, k.cel, (k.sl.setI i rx).setI j ry, k.G, k.sf, k.nm, k.ln, k.fl, k.no, by rw [List.getElem?_set_ne hj.1, List.getElem?_set_ne hi.1]; exact k.i0, by
    unfold TS.set2; rw [List.getElem?_set_ne hj.2, List.getElem?_set_ne hi.2]; exact k.rn, fun j' e h => by rw [List.getElem?_set_ne hj.2, List.getElem?_set_ne hi.2]; exact k.al j' e h⟩
theorem dn_asg2 {tg e : Expr} {i j : Nat} {fe : FD} {pos : Pos} (hi : i ≠ i0 ∧ i ≠ ir) (hj : j ≠ i0 ∧ j ≠ ir) (hg : PG X tg (gTup X.K 2 (gCons (gName i) (gCons (gName j) gNil)))) (he : DI M W X e fe) (hs : swapsWithSole [tg] e pos.line X.env = pure false := by rfl) (hw : swappedStores [tg] e X.env = pure none := by rfl)
    (h1 : (assignEach [tg] X.env).map (·.2) = [assign tg X.env] := by rfl) : DN1 M W X i0 ir (.Assign [tg] e pos) (nAsg2 ir i j fe) := by
  obtain ⟨te, pe, he⟩ := di_frm he
  refine ⟨_, ps_asg pe hg hs hw h1, fun c F H σ s s' E ⟨adr, cont, C, dx, fvs, k⟩ e q => ?_⟩
  obtain ⟨⟨d, δ1⟩, e1, e⟩ := Option.bind_eq_some_iff.mp e
  obtain ⟨f1, i1, r1⟩ := runI_eq e1
  refine he F H σ s.δ d δ1 _ k.bas.same k.bas.tb k.sl f1 i1 fun v F1 H1 st1 sl1 rv => ?_
  split at e
  · rename_i x y hd
    simp only at hd
    subst hd
    cases e
    unfold rep at rv
    obtain ⟨a, vs, rfl, h2, h3⟩ := rv
    unfold reps at h3
    obtain ⟨v1, r, rfl, k1, h3⟩ := h3
    unfold reps at h3
    obtain ⟨v2, r, rfl, k2, h3⟩ := h3
    unfold reps at h3
    subst h3
    have kk : NK c i0 ir F1 H1 σ { s with δ := δ1 } adr cont C dx fvs := k.step st1 sl1 rfl rfl r1
    exact ⟨a, _, rfl, SqT.of (kk.bas.same _ _ h2), rfl, v1, _, rfl, v2, _, rfl, rfl, q F1 H1 _ st1.grow ⟨_, _, _, _, _, kk.set2 hi hj k1 k2⟩⟩
  · cases e
/-! if -/
def runT (ir : Nat) (f : FT) (δ : Sl) : Option (Bool × Sl) := match f δ with
  | .ok d δ' => if immS δ' && noneAt ir δ' then some (d, δ') else none
  | _ => none
theorem runT_eq {f : FT} {δ δ' : Sl} {d : Bool} (h : runT ir f δ = some (d, δ')) : f δ = .ok d δ' ∧ immS δ' = true ∧ δ'[ir]? = some none := by
  unfold runT at h
  split at h
  · rename_i d2 δ2 e
    split at h
    · rename_i hi
      rw [Bool.and_eq_true] at hi
      cases h; exact ⟨e, hi.1, noneAt_eq hi.2⟩
    · cases h
  · cases h
def nIf (ir : Nat) (ft : FT) (g h : GN) : GN := fun s => (runT ir ft s.δ).bind fun p => if p.1 then g { s with δ := p.2 } else h { s with δ := p.2 }
theorem dn_if {e : Expr} {ss ss' : List Stmt} {pos : Pos} {ft : FT} {g h : GN} (ht : DT M W X e ft) (ha : DN M W X i0 ir ss g) (hb : DN M W X i0 ir ss' h) : DN1 M W X i0 ir (.If e ss ss' pos) (nIf ir ft g h) := by
  obtain ⟨tt, pt, ht⟩ := dt_frm ht
  obtain ⟨ta, pa, ha⟩ := ha
  obtain ⟨tb, pb, hb⟩ := hb
  refine ⟨_, ps_if pt pa pb, fun c F H σ s s' E ⟨adr, cont, C, dx, fvs, k⟩ e q => ?_⟩
  obtain ⟨⟨b, δ1⟩, e1, e⟩ := Option.bind_eq_some_iff.mp e
  obtain ⟨f1, i1, r1⟩ := runT_eq e1
  refine ht F H σ s.δ b δ1 _ k.bas.same k.bas.tb k.sl f1 i1 fun F1 H1 st1 sl1 => ?_
  have kk : NK c i0 ir F1 H1 σ { s with δ := δ1 } adr cont C dx fvs := k.step st1 sl1 rfl rfl r1
  cases b with
  | true => exact ha c F1 H1 σ _ s' E ⟨_, _, _, _, _, kk⟩ e fun F2 H2 σ2 g2 k2 => q F2 H2 σ2 (st1.grow.trans g2) k2
  | false => exact hb c F1 H1 σ _ s' E ⟨_, _, _, _, _, kk⟩ e fun F2 H2 σ2 g2 k2 => q F2 H2 σ2 (st1.grow.trans g2) k2
/-! for a, b in .. -/
def nForL (i j : Nat) (body : GN) : List D → GN
  | [], s => some s
  | d :: ds, s => match d with
    | .tup [x, y] => (body { s with δ := set2 i j x y s.δ }).bind (nForL i j body ds)
    | _ => none
def runA (ir : Nat) (f : FA) (δ : Sl) : Option (List D × Sl) := match f δ with
  | .ok d δ' => if immS δ' && noneAt ir δ' then some (d, δ') else none
  | _ => none
theorem runA_eq {f : FA} {δ δ' : Sl} {d : List D} (h : runA ir f δ = some (d, δ')) : f δ = .ok d δ' ∧ immS δ' = true ∧ δ'[ir]? = some none := by
  unfold runA at h
  split at h
  · rename_i d2 δ2 e
    split at h
    · rename_i hi
      rw [Bool.and_eq_true] at hi
      cases h; exact ⟨e, hi.1, noneAt_eq hi.2⟩
    · cases h
  · cases h
theorem for_core {c : Cn M} {F1 H1 : Hp} {σ : St} {s s' : NS} {E : Ends} {i j : Nat} {body : GN} {tb : L2.TS} {J : It} {ds : List D} (hi : i ≠ i0 ∧ i ≠ ir) (hj : j ≠ i0 ∧ j ≠ ir)
    (hb : ∀ (c : Cn M) F H σ s s' E, NOk c i0 ir F H σ s → body s = some s' → (∀ F' H' σ', Same F F' → NOk c i0 ir F' H' σ' s' → E.nx σ' H') → tb E σ H)
    (wk : Walks M J F1 ds) (k : NOk c i0 ir F1 H1 σ s) (e : nForL i j body ds s = some s') (q : ∀ F' H' σ', Same F1 F' → NOk c i0 ir F' H' σ' s' → E.nx σ' H') :
    ∃ Wv : Nat → Nat → St → Hp → Prop, (∃ m, Wv 0 m σ H1) ∧ ∀ i' m σ H, Wv i' m σ H → (J.stop i' H ∧ E.nx σ H) ∨ (J.go i' H ∧ ∃ N : St → Hp → Prop, (∀ σ' H', N σ' H' → ∃ m', m' < m ∧ Wv (i' + 1) m' σ' H') ∧ ∀ x H', J.yld i' H x H' → (gTup M.K 2 (gCons (gName i) (gCons (gName j) gNil))) x σ H' fun σ2 H2 => tb { E with nx := N, ct := N, bk := E.nx } σ2 H2) := by
  refine ⟨fun i' m σ H => i' ≤ ds.length ∧ m = ds.length - i' ∧ ∃ F' s1, Same F1 F' ∧ NOk c i0 ir F' H σ s1 ∧ nForL i j body (ds.drop i') s1 = some s', ⟨ds.length, Nat.zero_le _, rfl, F1, s, Same.refl _, k, e⟩, ?_⟩
  rintro i' m σ2 H2 ⟨hil, rfl, F2, s2, g2, ⟨adr, cont, C, dx, fvs, k2⟩, e2⟩
  by_cases hl : i' < ds.length
  · right
    have hd : ds[i']? = some ds[i'] := List.getElem?_eq_getElem hl
    obtain ⟨w1, w2⟩ := (wk i' H2 (g2.trans k2.bas.same)).1 _ hd
    refine ⟨w1, fun σ' H' => ∃ F' s1, Same F1 F' ∧ NOk c i0 ir F' H' σ' s1 ∧ nForL i j body (ds.drop (i' + 1)) s1 = some s', fun σ' H' h => ⟨ds.length - (i' + 1), by omega, by omega, rfl, h⟩, fun x H' y => ?_⟩
    rw [List.drop_eq_getElem_cons hl] at e2
    unfold nForL at e2
    split at e2
    · rename_i a b hab
      obtain ⟨s3, e3, e4⟩ := Option.bind_eq_some_iff.mp e2
      have go : ∀ {p : Addr} {ws : List V}, Stp M F2 H2 F2 H' none → H' p = some (.tup ws) → reps M F2 [a, b] ws → x = .ref p → (gTup M.K 2 (gCons (gName i) (gCons (gName j) gNil))) x σ2 H' fun σ2 H2 => tb { E with nx := fun σ' H' => ∃ F' s1, Same F1 F' ∧ NOk c i0 ir F' H' σ' s1 ∧ nForL i j body (ds.drop (i' + 1)) s1 = some s', ct := fun σ' H' => ∃ F' s1, Same F1 F' ∧ NOk c i0 ir F' H' σ' s1 ∧ nForL i j body (ds.drop (i' + 1)) s1 = some s', bk := E.nx } σ2 H2 := fun {p ws} st hp hr hx => by
        subst hx
        unfold reps at hr
        obtain ⟨v1, r, rfl, l1, hr⟩ := hr
        unfold reps at hr
        obtain ⟨v2, r, rfl, l2, hr⟩ := hr
        unfold reps at hr
        subst hr
        have k3 : NK c i0 ir F2 H' σ2 s2 adr cont C dx fvs := k2.step st k2.sl rfl rfl k2.rn
        refine ⟨p, _, rfl, SqT.of hp, rfl, v1, _, rfl, v2, _, rfl, rfl, ?_⟩
        exact hb c F2 H' _ _ s3 _ ⟨_, _, _, _, _, k3.set2 hi hj l1 l2⟩ e3 fun F4 H4 σ4 g4 k4 => ⟨F4, s3, g2.trans g4, k4, e4⟩
      rcases w2 x H' y with ⟨rfl, r⟩ | ⟨p, ws, es, k1, kk2, k3, k4, k5⟩
      · rw [hab] at r
        unfold rep at r
        obtain ⟨p, ws, rfl, h2, h3⟩ := r
        exact go ⟨Same.refl _, fun _ _ _ _ e => e, fun b o e _ _ => e, k2.bas.same, k2.bas.tb⟩ (k2.bas.same _ _ (g2 _ _ h2)) (reps_mono g2 _ _ h3) rfl
      · rw [hab] at k4
        cases k4
        subst k3
        exact go (stp_alloc k2.bas.same k2.bas.tb k1) upd_same (reps_mono g2 _ _ k5) kk2
    · cases e2
  · left
    have hi' : i' = ds.length := by omega
    subst hi'
    refine ⟨(wk _ H2 (g2.trans k2.bas.same)).2 (List.getElem?_eq_none (Nat.le_refl _)), ?_⟩
    rw [List.drop_length] at e2
    unfold nForL at e2
    cases e2
    exact q F2 H2 σ2 g2 ⟨_, _, _, _, _, k2⟩
def nForG (ir i j : Nat) (fi : FA) (body : GN) : GN := fun s => (runA ir fi s.δ).bind fun p => nForL i j body p.1 { s with δ := p.2 }
theorem dn_forG {tg iter : Expr} {ss : List Stmt} {pos : Pos} {fi : FA} {body : GN} {i j : Nat} (hp : PassesOwn (model X.prog X.w) X.A X.env X.xe) (hc : X.calm = true) (hi : i ≠ i0 ∧ i ≠ ir) (hj : j ≠ i0 ∧ j ≠ ir) (hit : DIt M W X tg iter fi) (hg : PG X tg (gTup X.K 2 (gCons (gName i) (gCons (gName j) gNil)))) (hb : DN M W X i0 ir ss body) (hK : X.K = M.K := by rfl)
    (hs : ∀ x, foldedSetIterable iter X.env x = pure x := by intro _; rfl) : DN1 M W X i0 ir (.For tg iter ss [] pos) (nForG ir i j fi body) := by
  obtain ⟨wi, pi, hit⟩ := dit_frm hit
  obtain ⟨tb, pb, hb⟩ := hb
  rw [hK] at hg
  refine ⟨_, ps_for hp hc pi hg pb hs, fun c F H σ s s' E ⟨adr, cont, C, dx, fvs, k⟩ e q => ?_⟩
  obtain ⟨⟨ds, δ1⟩, e1, e⟩ := Option.bind_eq_some_iff.mp e
  obtain ⟨f1, i1, r1⟩ := runA_eq e1
  refine hit F H σ s.δ ds δ1 _ k.bas.same k.bas.tb k.sl f1 i1 fun J F1 H1 st1 sl1 wk => ?_
  have kk : NK c i0 ir F1 H1 σ { s with δ := δ1 } adr cont C dx fvs := k.step st1 sl1 rfl rfl r1
  exact for_core hi hj hb wk ⟨_, _, _, _, _, kk⟩ e fun F2 H2 σ2 g2 k2 => q F2 H2 σ2 (st1.grow.trans g2) k2
def nForF (i j : Nat) (ix : Nat → Option Nat) (body : GN) : GN := fun s => (ix s.n).bind fun jf => (s.fs[jf]?).bind fun f => match f with
  | .d (.lst ds) => nForL i j body (enumD 0 ds) s
  | _ => none
theorem dn_forF {o : Expr} {f : Str} {ix : Nat → Option Nat} {elts : List Expr} {kk : Nat} {tpos epos ppos apos pos : Pos} {ss : List Stmt} {body : GN} {i j : Nat} (T : FldT M f ix) (hp : PassesOwn (model X.prog X.w) X.A X.env X.xe) (hc : X.calm = true) (hi : i ≠ i0 ∧ i ≠ ir) (hj : j ≠ i0 ∧ j ≠ ir) (hge : Gl X "enumerate") (hme : X.mg "enumerate" = none) (ho : PE X o (tVar i0))
    (hg : PG X (.Tuple elts kk tpos) (gTup X.K 2 (gCons (gName i) (gCons (gName j) gNil)))) (hb : DN M W X i0 ir ss body) (hK : X.K = M.K := by rfl) (hba : attributeBase o f X.env (eval o X.env) = eval o X.env := by rfl)
    (hs1 : starEach [.Attribute o f apos] X.env = [(false, eval (.Attribute o f apos) X.env)] := by rfl) (hs2 : starEach (.Attribute o f apos :: []) X.env = (false, eval (.Attribute o f apos) X.env) :: starEach [] X.env := by rfl)
    (hs : ∀ x, foldedSetIterable (.Call (.Name "enumerate" ppos) [.Attribute o f apos] [] epos) X.env x = pure x := by intro _; rfl) : DN1 M W X i0 ir (.For (.Tuple elts kk tpos) (.Call (.Name "enumerate" ppos) [.Attribute o f apos] [] epos) ss [] pos) (nForF i j ix body) := by
  obtain ⟨tb, pb, hb⟩ := hb
  rw [hK] at hg
  refine ⟨_, ps_for hp hc (pi_enum hge hme (pa_cons (pe_fld ho hba) pa_nil hs2) hs1) hg pb hs, fun c F H σ s s' E ⟨adr, cont, C, dx, fvs, k⟩ e q => ?_⟩
  obtain ⟨jf, e1, e⟩ := Option.bind_eq_some_iff.mp e
  obtain ⟨nf, e2, e⟩ := Option.bind_eq_some_iff.mp e
  split at e
  · rename_i ds
    obtain ⟨p, hp2, hlk, hfo⟩ := fvs_look T k (j := jf) e1 e2
    obtain ⟨t1, t2⟩ := (T s.n jf e1).1 C k.G
    have hfo' : rep M F (.lst ds) p.2 := hfo
    unfold rep at hfo'
    obtain ⟨a, vs, ea, h2, h3⟩ := hfo'
    refine ⟨_, k.i0, _, C, dx, fvs, p.2, rfl, k.cel.at_ _ _ k.sf, by rw [hK]; exact t1, by rw [hK]; exact t2, hlk, a, vs, by rw [ea], SqL.of (k.bas.same _ _ h2), ?_⟩
    exact for_core hi hj hb (walks_enum hK h2 h3) ⟨_, _, _, _, _, k⟩ e q
  · cases e
end
end
end TS

set_option maxRecDepth 100000
set_option maxHeartbeats 4000000
/-! TSr: from slots to cells, and back. -/
namespace TS
open PySem L2
noncomputable section
def nestS (i0 ir : Nat) (g : GN) : FS := fun δ => match δ[i0]? with
  | some (some (.brw (.o n ds))) => if immS (δ.set i0 none) && noneAt ir (δ.set i0 none) then (match g ⟨δ.set i0 none, n, ds.map NF.d, none⟩ with
    | some s' => .nx (s'.δ.set i0 (some (.brw (.o s'.n (s'.fs.map NF.toD)))))
    | none => .bad) else .bad
  | _ => .bad
section
variable {M : Gm} {W : WX} {X : Cx} {i0 ir : Nat} {c : Cn M} {F F' H H' : Hp} {σ : St} {δ : Sl} {s : NS}
theorem reps_of_get : ∀ {ds : List D} {vs : List V}, ds.length = vs.length → (∀ (i : Nat) (d : D) (v : V), ds[i]? = some d → vs[i]? = some v → rep M F d v) → reps M F ds vs
  | [], [], _, _ => reps_nil
  | [], v :: vs, h, _ => by simp at h
  | d :: ds, [], h, _ => by simp at h
  | d :: ds, v :: vs, h, hh => reps_cons (hh 0 d v rfl rfl) (reps_of_get (by simpa using h) fun i d' v' e1 e2 => hh (i + 1) d' v' (by simpa using e1) (by simpa using e2))
theorem nest_in (ok : Ok c F H σ δ) {n : Nat} {ds : List D} (e : δ[i0]? = some (some (.brw (.o n ds)))) (hi : immS (δ.set i0 none) = true) (hn : (δ.set i0 none)[ir]? = some none) : NOk c i0 ir F H σ ⟨δ.set i0 none, n, ds.map NF.d, none⟩ := by
  obtain ⟨v, ev, a, rfl, h1, h2, C, dx, fs, h3, h4, h5, h6⟩ := ok.slot i0 _ e
  have hl : fs.length = ds.length := by have := reps_length h6; simpa using this
  have only : ∀ p o, setC (fun _ => none) Pth.self (some (HO.ins C dx fs)) p = some o → p = .self ∧ o = .ins C dx fs := fun p o h => by
    by_cases z : p = .self
    · subst z; rw [setC_same] at h; cases h; exact ⟨rfl, rfl⟩
    · rw [setC_ne z] at h; cases h
  refine ⟨fun _ => a, setC (fun _ => none) .self (some (.ins C dx fs)), C, dx, fs, ⟨ok.same, ok.grow, ok.nofz, ok.kept, ok.ioh, ok.tb⟩, ⟨fun p o h => ?_, fun p o h => h1, fun p o h hs => absurd (only p o h).1 hs, fun p q o o' hp hq _ => (only p o hp).1.trans (only q o' hq).1.symm, h2, ⟨_, setC_same _ _ _⟩, fun p o h => by rw [(only p o h).2]; rfl⟩, ⟨by simp [ok.len], fun i r er => ?_⟩, h3, setC_same _ _ _, by simpa using h5, by simpa using hl, fun j f p hj hp => ?_, fun j hj => ⟨setC_ne (by intro z; cases z), fun e => setC_ne (by intro z; cases z)⟩, ev, hn, fun j e h => by cases h⟩
  · obtain ⟨_, rfl⟩ := only p o h; exact h4
  · obtain ⟨d, rfl⟩ := immS_at hi er
    rcases getElem?_set_some er with ⟨_, z, _⟩ | ⟨hne, er⟩
    · cases z
    · obtain ⟨w, w1, w2⟩ := ok.slot i _ er
      exact ⟨d, w, rfl, w1, w2⟩
  · simp only [List.getElem?_map] at hj
    obtain ⟨d, hd, rfl⟩ := Option.map_eq_some_iff.mp hj
    obtain ⟨w, w1, w2⟩ := reps_get h6 hd
    rw [List.getElem?_map, hp] at w1
    cases w1
    exact w2
open Classical in
theorem nest_out (k : NOk c i0 ir F H σ s) : ∃ F', Same F F' ∧ Ok c F' H σ (s.δ.set i0 (some (.brw (.o s.n (s.fs.map NF.toD))))) := by
  obtain ⟨adr, cont, C, dx, fvs, k⟩ := k
  let F' : Hp := fun b => if ∃ p o, p ≠ Pth.self ∧ cont p = some o ∧ adr p = b then H b else F b
  have fOn : ∀ p o, p ≠ .self → cont p = some o → F' (adr p) = some o := fun p o hs h => by
    show (if _ then _ else _) = _
    rw [if_pos ⟨p, o, hs, h, rfl⟩]; exact k.cel.at_ p o h
  have fOff : ∀ b, (¬ ∃ p o, p ≠ Pth.self ∧ cont p = some o ∧ adr p = b) → F' b = F b := fun b h => if_neg h
  have g : Same F F' := fun b o e => by
    rw [fOff b]
    · exact e
    · rintro ⟨p, o', hs, h, rfl⟩
      rw [k.cel.fr p o' h] at e; cases e
  have sm : Same F' H := fun b o e => by
    by_cases z : ∃ p o, p ≠ Pth.self ∧ cont p = some o ∧ adr p = b
    · rw [show F' b = H b from if_pos z] at e; exact e
    · rw [fOff b z] at e; exact k.bas.same b o e
  have fS : F' (adr .self) = none := by
    rw [fOff]
    · exact k.cel.fr _ _ k.sf
    · rintro ⟨p, o, hs, h, e⟩
      exact hs (k.cel.inj p .self o _ h k.sf e)
  have rows : ∀ {κ : Type} {mk : List (κ × V) → HO} {j : Nat} {L : List (κ × List D)} {v : V}, rowsOk M F adr cont j mk L v → ∃ (kvs : List (κ × V)), v = .ref (adr (.fld j)) ∧ F' (adr (.fld j)) = some (mk kvs) ∧ kvs.map (·.1) = L.map (·.1) ∧ reps M F' (L.map fun x => D.lst x.2) (kvs.map (·.2)) := fun {κ mk j L v} h => by
    obtain ⟨k1, ⟨kvs, k2, k3, k4⟩, k5, k6⟩ := h
    refine ⟨kvs, k1, fOn _ _ (by intro z; cases z) k2, k3, reps_of_get (by have := congrArg List.length k3; simp at this ⊢; omega) fun i d w e1 e2 => ?_⟩
    rw [List.getElem?_map] at e1 e2
    obtain ⟨x, hx, rfl⟩ := Option.map_eq_some_iff.mp e1
    obtain ⟨kv, hkv, rfl⟩ := Option.map_eq_some_iff.mp e2
    obtain ⟨vs, l1, l2⟩ := k5 i x hx
    unfold rep
    exact ⟨adr (.row j i), vs, k4 i kv hkv, fOn _ _ (by intro z; cases z) l1, reps_mono g _ _ l2⟩
  have fld : ∀ j f v, fldOk M F adr cont j f v → rep M F' f.toD v := fun j f v h => by
    cases f with
    | d x => exact rep_mono g _ _ h
    | dk ks ds =>
      obtain ⟨k1, kvs, k2, k3, k4⟩ := h
      unfold NF.toD rep
      exact ⟨_, kvs, k1, fOn _ _ (by intro z; cases z) k2, k3, reps_mono g _ _ k4⟩
    | rk L =>
      obtain ⟨kvs, k1, k2, k3, k4⟩ := rows (show rowsOk M F adr cont j HO.dK L v from h)
      unfold NF.toD rep
      exact ⟨_, kvs, k1, k2, k3, k4⟩
    | rt L =>
      obtain ⟨kvs, k1, k2, k3, k4⟩ := rows (show rowsOk M F adr cont j HO.dT L v from h)
      unfold NF.toD rep
      exact ⟨_, kvs, k1, k2, k3, k4⟩
  have others : ∀ (j : Nat) (r : R), (s.δ.set i0 (some (.brw (.o s.n (s.fs.map NF.toD)))))[j]? = some (some r) → (i0 = j ∧ r = .brw (.o s.n (s.fs.map NF.toD))) ∨ (i0 ≠ j ∧ ∃ d v, r = .imm d ∧ σ[j]? = some (some v) ∧ rep M F d v) := fun j r e => by
    rcases getElem?_set_some e with ⟨z, z2, _⟩ | ⟨z, e⟩
    · exact .inl ⟨z, (Option.some.inj z2).symm⟩
    · exact .inr ⟨z, k.sl.at_ j r e⟩
  refine ⟨F', g, sm, k.bas.grow.trans g, fun b e1 e2 => ?_, k.bas.kept, k.bas.ioh, k.bas.tb.keep (fun _ _ e _ => e) (fun b o e n z => by
    rw [fOff b]
    · exact z
    · rintro ⟨p, o', hs, h, z'⟩
      rw [← z', k.cel.at_ p o' h] at e; cases e; exact n (k.cel.nt p _ h)) (fun b ps e => by
    by_cases z : ∃ p o, p ≠ Pth.self ∧ cont p = some o ∧ adr p = b
    · obtain ⟨p, o, hs, h, rfl⟩ := z
      rw [fOn p o hs h] at e; cases e
      have := k.cel.nt p _ h
      cases this
    · rw [fOff b z] at e; exact k.bas.tb.nt b ps e), by simp [k.sl.len], fun j r e => ?_, fun i j r r' v hij e1 e2 m1 m2 _ _ => ?_⟩
  · rw [fOff b]
    · exact k.bas.nofz b e1 e2
    · rintro ⟨p, o, hs, h, rfl⟩
      exact e1 (k.cel.h0 p o h hs)
  · rcases others j r e with ⟨rfl, rfl⟩ | ⟨_, d, v, rfl, e1, e2⟩
    · refine ⟨_, k.i0, adr .self, rfl, fS, k.cel.io, C, dx, fvs, k.G, k.cel.at_ _ _ k.sf, by simpa using k.nm, ?_⟩
      refine reps_of_get (by simp [k.ln]) fun i d v e1 e2 => ?_
      rw [List.getElem?_map] at e1 e2
      obtain ⟨f, hf, rfl⟩ := Option.map_eq_some_iff.mp e1
      obtain ⟨p, hp, rfl⟩ := Option.map_eq_some_iff.mp e2
      exact fld i f p.2 (k.fl i f p hf hp)
    · exact ⟨v, e1, rep_mono g _ _ e2⟩
  · rcases others i r e1 with ⟨rfl, rfl⟩ | ⟨_, d, w, rfl, _, _⟩
    · rcases others j r' e2 with ⟨rfl, rfl⟩ | ⟨_, d, w, rfl, _, _⟩
      · exact hij rfl
      · cases m2
    · cases m1
theorem dss_nest {ss : List Stmt} {g : GN} (h : DN M W X i0 ir ss g) : DSs M W X ss (nestS i0 ir g) := by
  obtain ⟨t, p, h⟩ := h
  refine ⟨t, p, fun c F H σ δ E ok post => ?_⟩
  unfold nestS at post
  split at post
  · rename_i n ds e0
    split at post
    · rename_i hi
      rw [Bool.and_eq_true] at hi
      split at post
      · rename_i s' e1
        refine h c F H σ _ s' E (nest_in ok e0 hi.1 (noneAt_eq hi.2)) e1 fun F1 H1 σ1 g1 k1 => ?_
        obtain ⟨F2, g2, ok2⟩ := nest_out k1
        exact post F2 H1 σ1 (g1.trans g2) ok2
      · exact post.elim
    · exact post.elim
  · exact post.elim
end
end
end TS

set_option maxRecDepth 100000
set_option maxHeartbeats 4000000
/-! TSs: chained comparisons, texts of the module, d.get. -/
namespace TS
open PySem L2
noncomputable section
def fChain (g g' : D → D → Option R) (fa fb fc : FD) : FE := fun δ => (fa δ).bind fun x δ1 => (fb δ1).bind fun y δ2 => match g x y with
  | some (.imm (.bl true)) => (fc δ2).bind fun w δ3 => (match g' y w with
    | some z => .ok z δ3
    | none => .bad)
  | some (.imm (.bl false)) => .ok (.imm (.bl false)) δ2
  | _ => .bad
section
variable {M : Gm} {W : WX} {X : Cx} {a b c : Expr} {pos : Pos} {fa fb fc : FD} {r r' : R2} {g g' : D → D → Option R}
theorem chain_run (hd : OpD M r g) (hd' : OpD M r' g') {ta tb tc : TE} (ha : ∀ (c : Cn M) F H σ δ Q, Ok c F H σ δ → Post c W F σ (ρD c) (fa δ) Q → ta σ H Q) (hb : ∀ (c : Cn M) F H σ δ Q, Ok c F H σ δ → Post c W F σ (ρD c) (fb δ) Q → tb σ H Q) (hc : ∀ (c : Cn M) F H σ δ Q, Ok c F H σ δ → Post c W F σ (ρD c) (fc δ) Q → tc σ H Q) : ∀ (c : Cn M) F H σ δ Q, Ok c F H σ δ → Post c W F σ (ρR c σ) (fChain g g' fa fb fc δ) Q → tChain r r' ta tb tc σ H Q := by
  intro c F H σ δ Q ok post
  refine ha c F H σ δ _ ok (Post.bind post fun dx δ1 x F1 H1 _ s1 ok1 rx post => hb c F1 H1 σ δ1 _ ok1 (Post.bind post fun dy δ2 y F2 H2 _ s2 ok2 ry post => ?_))
  have rx2 := rep_mono s2 _ _ rx
  split at post
  · rename_i e
    refine hd c F2 H2 σ δ2 x y dx dy _ _ ok2 (.inl rx2) (.inl ry) e fun v F3 H3 g3 ok3 rv => ?_
    have ev : v = .bl true := by have : rep M F3 (.bl true) v := rv; unfold rep at this; exact this
    subst ev
    refine ⟨true, rfl, ?_⟩
    rw [if_pos rfl]
    have post := Post.shift post g3
    exact hc c F3 H3 σ δ2 _ ok3 (Post.bind post fun dw δ3 w F4 H4 _ s4 ok4 rw' post => bin_of hd' ok4 (.inl (rep_mono (g3.trans s4) _ _ ry)) (.inl rw') post)
  · rename_i e
    refine hd c F2 H2 σ δ2 x y dx dy _ _ ok2 (.inl rx2) (.inl ry) e fun v F3 H3 g3 ok3 rv => ?_
    have ev : v = .bl false := by have : rep M F3 (.bl false) v := rv; unfold rep at this; exact this
    subst ev
    refine ⟨false, rfl, ?_⟩
    rw [if_neg (by simp)]
    exact post _ F3 H3 g3 ok3 rv
  · exact post.elim
theorem d_chain {op op' : CmpOp} (ho : OpR X (compareOp op) r) (ho' : OpR X (compareOp op') r') (hd : OpD M r g) (hd' : OpD M r' g') (ha : DI M W X a fa) (hb : DI M W X b fb) (hc : DI M W X c fc) (hm : lastMarks [op, op'] [b, c] = false := by with_unfolding_all rfl) : DE M W X (.Compare a [op, op'] [b, c] pos) (fChain g g' fa fb fc) := by
  obtain ⟨ta, pa, ha⟩ := ha
  obtain ⟨tb, pb, hb⟩ := hb
  obtain ⟨tc, pc, hc⟩ := hc
  exact ⟨_, pe_chain ho ho' pa pb pc hm, chain_run hd hd' ha hb hc⟩
theorem dt_chain {op op' : CmpOp} (ho : OpR X (compareOp op) r) (ho' : OpR X (compareOp op') r') (hd : OpD M r g) (hd' : OpD M r' g') (ha : DI M W X a fa) (hb : DI M W X b fb) (hc : DI M W X c fc) (hm : lastMarks [op, op'] [b, c] = false := by with_unfolding_all rfl) : DT M W X (.Compare a [op, op'] [b, c] pos) (fTst (fChain g g' fa fb fc)) := by
  obtain ⟨ta, pa, ha⟩ := ha
  obtain ⟨tb, pb, hb⟩ := hb
  obtain ⟨tc, pc, hc⟩ := hc
  exact ⟨_, pt_chain ho ho' pa pb pc hm, tst_of (chain_run hd hd' ha hb hc)⟩
/-! a text that the module names -/
theorem di_gstr {x z : Str} {pos : Pos} (hg : Gl X x) (hm : ∃ t, X.mg x = some (.str z t)) (hd : (x == ("__debug__" : Str)) = false := by decide) : DI M W X (.Name x pos) (kD (.str z)) := by
  obtain ⟨t, hm⟩ := hm
  exact di_c (v := .str z) (pe_glob (v := V.str z) hg hm (show ∃ t', Value.str z t = Value.str z t' from ⟨t, rfl⟩) hd) fun F => by unfold rep; rfl
/-! d.get(k, x) -/
def gGet : D → D → D → Option D
  | .dK ks ds, k, x => (keyOf k).map fun k => (lookD ks ds k).getD x
  | .dT ks ds, .tup kds, x => (keysOf kds).map fun k => (lookD ks ds k).getD x
  | _, _, _ => none
def isDD : D → Bool
  | .dK _ _ => true
  | .dT _ _ => true
  | _ => false
def fGet (fo fk fx : FD) : FD := fun δ => (fo δ).bind fun d δ1 => if isDD d then (fk δ1).bind fun k δ2 => (fx δ2).bind fun x δ3 => (match gGet d k x with
  | some z => .ok z δ3
  | none => .bad) else .bad
theorem di_get {o e f : Expr} {apos cpos : Pos} {fo fk fx : FD} (hu : X.A.units + 1 < cLine) (ho : DI M W X o fo) (hk : DI M W X e fk) (hx : DI M W X f fx) (m : M2 X o "get" apos e f cpos := by exact ⟨rfl, rfl, rfl, rfl⟩) : DI M W X (.Call (.Attribute o "get" apos) [e, f] [] cpos) (fGet fo fk fx) := by
  obtain ⟨to, po, ho⟩ := ho
  obtain ⟨tk, pk, hk⟩ := hk
  obtain ⟨tx, px, hx⟩ := hx
  refine ⟨_, pe_dget2 hu po pk px m, fun c F H σ δ Q ok post => ho c F H σ δ _ ok (Post.bind post fun d δ1 v F1 H1 _ s1 ok1 r post => ?_)⟩
  split at post
  · rename_i hd
    have isd : ∃ a, v = .ref a ∧ IsD H1 a := by
      cases d <;> simp [isDD] at hd
      · obtain ⟨a, kvs, e1, e2, _⟩ := prep_dK ok1.same (.inl r)
        exact ⟨a, e1, .inl ⟨kvs, .inl e2⟩⟩
      · obtain ⟨a, kvs, e1, e2, _⟩ := prep_dT ok1.same (.inl r)
        exact ⟨a, e1, .inr ⟨kvs, .inl e2⟩⟩
    obtain ⟨a, ev, hisd⟩ := isd
    refine ⟨a, ev, hisd, hk c F1 H1 σ δ1 _ ok1 (Post.bind post fun kd δ2 kv F2 H2 _ s2 ok2 rk post => hx c F2 H2 σ δ2 _ ok2 (Post.bind post fun xd δ3 xv F3 H3 _ s3 ok3 rx post => ?_))⟩
    have r3 := rep_mono (s2.trans s3) _ _ r
    have rk3 := rep_mono s3 _ _ rk
    subst ev
    have fin : ∀ {κ : Type} [DecidableEq κ] {kvs : List (κ × V)} {ds : List D} (kk : κ), reps M F3 ds (kvs.map (·.2)) → rep M F3 ((lookD (kvs.map (·.1)) ds kk).getD xd) ((valV kvs kk).getD xv) := fun {κ _ kvs ds} kk h4 => by
      obtain ⟨l1, l2⟩ := lookD_val kk h4
      cases q : lookD (kvs.map (·.1)) ds kk with
      | none => rw [l2 q]; exact rx
      | some d => obtain ⟨w, w1, w2⟩ := l1 d q; rw [w1]; exact w2
    split at post
    · rename_i z hz
      unfold gGet at hz
      split at hz
      · obtain ⟨kk, e1, rfl⟩ := Option.map_eq_some_iff.mp hz
        obtain ⟨a', kvs, e2, h2, h3, h4⟩ := prep_dK ok3.same (.inl r3)
        cases e2
        subst h3
        refine ⟨_, ?_, post.ok ok3 (fin kk h4)⟩
        rw [keyOf_v (M := M) (H := H3) (.inl rk3) e1]
        exact DGet.k h2
      · obtain ⟨kk, e1, rfl⟩ := Option.map_eq_some_iff.mp hz
        obtain ⟨a', kvs, e2, h2, h3, h4⟩ := prep_dT ok3.same (.inl r3)
        obtain ⟨b, rfl, hb⟩ := prep_tupK ok3.same (.inl rk3) e1
        cases e2
        subst h3
        exact ⟨_, DGet.t h2 hb, post.ok ok3 (fin kk h4)⟩
      · cases hz
    · exact post.elim
  · exact post.elim
end
end
end TS

set_option maxRecDepth 100000
set_option maxHeartbeats 4000000
/-! TSt: pairs and triples of names, by a tuple that is made; new objects stay own. -/
namespace TS
open PySem L2
noncomputable section
section
variable {M : Gm} {c : Cn M} {W : WX} {X : Cx} {F H : Hp} {σ : St} {δ : Sl}
theorem repR_alloc {p : Addr} {o : HO} (hp : H p = none) {r : R} {v : V} (h : repR c F H σ δ r v) : repR c F (upd H p o) σ δ r v := by
  cases r with
  | imm d => exact h
  | brw o => exact h
  | own ob =>
    obtain ⟨a, rfl, h1, h2, h3, h4⟩ := h
    obtain ⟨u, hu⟩ := obAt_some h3
    exact ⟨a, rfl, h1, h2, obAt_mono (Same.refl _) (upd_ne (L2.ne_of_none hu hp)) h3, h4⟩
theorem repXs_alloc {p : Addr} {o : HO} (hp : H p = none) : ∀ {rs : List R} {vs : List V}, repXs c F H σ δ rs vs → repXs c F (upd H p o) σ δ rs vs
  | [], vs, h => h
  | r :: rs, vs, h => by
    obtain ⟨v, ws, rfl, h1, h2, h3⟩ := h
    exact ⟨v, ws, rfl, repR_alloc hp h1, repXs_alloc hp h2, h3⟩
def sPar2E (i j : Nat) (f : FX) : FS := fun δ => (f δ).bindS fun rs δ1 => match rs with
  | [a, b] => if i < δ1.length then .nx ((δ1.set i (some a)).set j (some b)) else .bad
  | _ => .bad
theorem ds_par2T {i j : Nat} {tg : Expr} {a b : Expr} {fa : FX} {pos tpos : Pos} {kt} (hg : PG X tg (gTup X.K 2 (gCons (gName i) (gCons (gName j) gNil)))) (ha : DX M W X [a, b] fa) (hs : swapsWithSole [tg] (.Tuple [a, b] kt tpos) pos.line X.env = pure false := by rfl) (hw : swappedStores [tg] (.Tuple [a, b] kt tpos) X.env = pure none := by rfl)
    (h1 : (assignEach [tg] X.env).map (·.2) = [assign tg X.env] := by rfl) : DS M W X (.Assign [tg] (.Tuple [a, b] kt tpos) pos) (sPar2E i j fa) := by
  obtain ⟨t, p, h⟩ := ha
  refine ⟨_, ps_asg (pe_tup p) hg hs hw h1, fun c F H σ δ E ok post => h c F H σ δ _ ok (PostS.ofE post fun rs δ1 vs F1 H1 _ s1 ok1 rr post => ?_)⟩
  split at post
  · rename_i r1 r2 _
    split at post
    · rename_i hlen
      obtain ⟨u, ws, rfl, k1, rr', d1⟩ := id rr
      obtain ⟨v, ws, rfl, k2, rr', d2⟩ := rr'
      obtain rfl : ws = [] := rr'
      refine ⟨by rw [sizeLine_eq]; simp, fun q hq => ⟨q, [u, v], rfl, SqT.of upd_same, rfl, u, [v], rfl, v, [], rfl, rfl, ?_⟩⟩
      have ok2 : Ok c F1 (upd H1 q (.tup [u, v])) σ δ1 := ok1.alloc hq
      have li : i < σ.length := by rw [ok1.len]; exact hlen
      exact post F1 _ _ (Same.refl _) ((ok2.setR i (repR_alloc hq k1)).setR j (repR_setR li (repR_alloc hq k2) fun m1 m2 z => d1 m1 0 r2 rfl m2 (by rw [z]; rfl)))
    · exact post.elim
  · exact post.elim
theorem ds_par3T {i j l : Nat} {tg : Expr} {a b c' : Expr} {fa : FX} {pos tpos : Pos} {kt} (hg : PG X tg (gTup X.K 3 (gCons (gName i) (gCons (gName j) (gCons (gName l) gNil))))) (ha : DX M W X [a, b, c'] fa) (hs : swapsWithSole [tg] (.Tuple [a, b, c'] kt tpos) pos.line X.env = pure false := by rfl) (hw : swappedStores [tg] (.Tuple [a, b, c'] kt tpos) X.env = pure none := by rfl)
    (h1 : (assignEach [tg] X.env).map (·.2) = [assign tg X.env] := by rfl) : DS M W X (.Assign [tg] (.Tuple [a, b, c'] kt tpos) pos) (sPar3E i j l fa) := by
  obtain ⟨t, p, h⟩ := ha
  refine ⟨_, ps_asg (pe_tup p) hg hs hw h1, fun c F H σ δ E ok post => h c F H σ δ _ ok (PostS.ofE post fun rs δ1 vs F1 H1 _ s1 ok1 rr post => ?_)⟩
  split at post
  · rename_i r1 r2 r3 _
    split at post
    · rename_i hlen
      obtain ⟨u, ws, rfl, k1, rr', d1⟩ := id rr
      obtain ⟨v, ws, rfl, k2, rr', d2⟩ := rr'
      obtain ⟨w, ws, rfl, k3, rr', _⟩ := rr'
      obtain rfl : ws = [] := rr'
      refine ⟨by rw [sizeLine_eq]; simp, fun q hq => ⟨q, [u, v, w], rfl, SqT.of upd_same, rfl, u, _, rfl, v, _, rfl, w, [], rfl, rfl, ?_⟩⟩
      have ok2 : Ok c F1 (upd H1 q (.tup [u, v, w])) σ δ1 := ok1.alloc hq
      have li : i < σ.length := by rw [ok1.len]; exact hlen.1
      have lj : j < σ.length := by rw [ok1.len]; exact hlen.2
      have e12 : r1.mu = true → r2.mu = true → v ≠ u := fun m1 m2 z => d1 m1 0 r2 rfl m2 (by rw [z]; rfl)
      have e13 : r1.mu = true → r3.mu = true → w ≠ u := fun m1 m2 z => d1 m1 1 r3 rfl m2 (by rw [z]; rfl)
      have e23 : r2.mu = true → r3.mu = true → w ≠ v := fun m1 m2 z => d2 m1 0 r3 rfl m2 (by rw [z]; rfl)
      exact post F1 _ _ (Same.refl _) (((ok2.setR i (repR_alloc hq k1)).setR j (repR_setR li (repR_alloc hq k2) e12)).setR l (repR_setR (by simpa using lj) (repR_setR li (repR_alloc hq k3) e13) e23))
    · exact post.elim
  · exact post.elim
end
end
end TS

set_option maxRecDepth 100000
set_option maxHeartbeats 4000000
/-! TSu: g(lambda: e), the def g derived with what the lambda does as a parameter. -/
namespace TS
open PySem L2 PySem.Spec PyProof.Rows
noncomputable section
mutual
def noLam : D → Bool
  | .lam => false
  | .lst ds => noLams ds
  | .tup ds => noLams ds
  | .scr ds => noLams ds
  | .dK _ ds => noLams ds
  | .dT _ ds => noLams ds
  | .obj _ ds => noLams ds
  | _ => true
def noLams : List D → Bool
  | [] => true
  | d :: ds => noLam d && noLams ds
end
section
variable {M : Gm} {L : Lm} {F F' H H' : Hp}
mutual
theorem rep_unl : ∀ (d : D) (v : V), noLam d = true → rep (M.wl L) F d v → rep M F d v
  | .non, v, _, h => by unfold rep at h ⊢; exact h
  | .bl _, v, _, h => by unfold rep at h ⊢; exact h
  | .int _, v, _, h => by unfold rep at h ⊢; exact h
  | .str _, v, _, h => by unfold rep at h ⊢; exact h
  | .lst ds, v, n, h => by
    unfold rep at h ⊢
    obtain ⟨a, vs, h1, h2, h3⟩ := h
    exact ⟨a, vs, h1, h2, reps_unl ds vs (by unfold noLam at n; exact n) h3⟩
  | .scr ds, v, n, h => by
    unfold rep at h ⊢
    obtain ⟨a, vs, h1, h2, h3⟩ := h
    exact ⟨a, vs, h1, h2, reps_unl ds vs (by unfold noLam at n; exact n) h3⟩
  | .tup ds, v, n, h => by
    unfold rep at h ⊢
    obtain ⟨a, vs, h1, h2, h3⟩ := h
    exact ⟨a, vs, h1, h2, reps_unl ds vs (by unfold noLam at n; exact n) h3⟩
  | .dK ks ds, v, n, h => by
    unfold rep at h ⊢
    obtain ⟨a, vs, h1, h2, h3, h4⟩ := h
    exact ⟨a, vs, h1, h2, h3, reps_unl ds _ (by unfold noLam at n; exact n) h4⟩
  | .dT ks ds, v, n, h => by
    unfold rep at h ⊢
    obtain ⟨a, vs, h1, h2, h3, h4⟩ := h
    exact ⟨a, vs, h1, h2, h3, reps_unl ds _ (by unfold noLam at n; exact n) h4⟩
  | .obj c ds, v, n, h => by
    unfold rep at h ⊢
    obtain ⟨a, C, dx, fs, h1, h2, h3, h4, h5⟩ := h
    exact ⟨a, C, dx, fs, h1, h2, h3, h4, reps_unl ds _ (by unfold noLam at n; exact n) h5⟩
  | .cls c, v, _, h => by unfold rep at h ⊢; exact h
  | .lam, v, n, h => by unfold noLam at n; cases n
theorem reps_unl : ∀ (ds : List D) (vs : List V), noLams ds = true → reps (M.wl L) F ds vs → reps M F ds vs
  | [], vs, _, h => by unfold reps at h ⊢; exact h
  | d :: ds, vs, n, h => by
    unfold noLams at n
    rw [Bool.and_eq_true] at n
    unfold reps at h ⊢
    obtain ⟨v, r, h1, h2, h3⟩ := h
    exact ⟨v, r, h1, rep_unl d v n.1 h2, reps_unl ds r n.2 h3⟩
end
mutual
theorem rep_lm (hM : M.lm = L0) : ∀ (d : D) (v : V), rep M F d v → rep (M.wl L) F d v
  | .non, v, h => by unfold rep at h ⊢; exact h
  | .bl _, v, h => by unfold rep at h ⊢; exact h
  | .int _, v, h => by unfold rep at h ⊢; exact h
  | .str _, v, h => by unfold rep at h ⊢; exact h
  | .lst ds, v, h => by
    unfold rep at h ⊢
    obtain ⟨a, vs, h1, h2, h3⟩ := h
    exact ⟨a, vs, h1, h2, reps_lm hM ds vs h3⟩
  | .scr ds, v, h => by
    unfold rep at h ⊢
    obtain ⟨a, vs, h1, h2, h3⟩ := h
    exact ⟨a, vs, h1, h2, reps_lm hM ds vs h3⟩
  | .tup ds, v, h => by
    unfold rep at h ⊢
    obtain ⟨a, vs, h1, h2, h3⟩ := h
    exact ⟨a, vs, h1, h2, reps_lm hM ds vs h3⟩
  | .dK ks ds, v, h => by
    unfold rep at h ⊢
    obtain ⟨a, vs, h1, h2, h3, h4⟩ := h
    exact ⟨a, vs, h1, h2, h3, reps_lm hM ds _ h4⟩
  | .dT ks ds, v, h => by
    unfold rep at h ⊢
    obtain ⟨a, vs, h1, h2, h3, h4⟩ := h
    exact ⟨a, vs, h1, h2, h3, reps_lm hM ds _ h4⟩
  | .obj c ds, v, h => by
    unfold rep at h ⊢
    obtain ⟨a, C, dx, fs, h1, h2, h3, h4, h5⟩ := h
    exact ⟨a, C, dx, fs, h1, h2, h3, h4, reps_lm hM ds _ h5⟩
  | .cls c, v, h => by unfold rep at h ⊢; exact h
  | .lam, v, h => by
    unfold rep at h
    rw [hM] at h
    exact (show False from h).elim
theorem reps_lm (hM : M.lm = L0) : ∀ (ds : List D) (vs : List V), reps M F ds vs → reps (M.wl L) F ds vs
  | [], vs, h => by unfold reps at h ⊢; exact h
  | d :: ds, vs, h => by
    unfold reps at h ⊢
    obtain ⟨v, r, h1, h2, h3⟩ := h
    exact ⟨v, r, h1, rep_lm hM d v h2, reps_lm hM ds r h3⟩
end
theorem obAt_unl {o : OB} {a : Addr} (n : noLam o.toD = true) (h : obAt (M.wl L) F H o a) : obAt M F H o a := by
  cases o with
  | l ds => obtain ⟨vs, h1, h2⟩ := h; exact ⟨vs, h1, reps_unl _ _ (by unfold OB.toD noLam at n; exact n) h2⟩
  | dK ks ds => obtain ⟨vs, h1, h2, h3⟩ := h; exact ⟨vs, h1, h2, reps_unl _ _ (by unfold OB.toD noLam at n; exact n) h3⟩
  | dT ks ds => obtain ⟨vs, h1, h2, h3⟩ := h; exact ⟨vs, h1, h2, reps_unl _ _ (by unfold OB.toD noLam at n; exact n) h3⟩
  | o c ds => obtain ⟨C, dx, fs, h1, h2, h3, h4⟩ := h; exact ⟨C, dx, fs, h1, h2, h3, reps_unl _ _ (by unfold OB.toD noLam at n; exact n) h4⟩
theorem xAt_unl {x : XD} {cls : Value} {d : Option Addr} (n : noLams x.vs = true) (h : xAt (M.wl L) F x cls d H) : xAt M F x cls d H := by
  obtain ⟨C, h1, h2, h3⟩ := h
  refine ⟨C, h1, h2, ?_⟩
  rcases h3 with h3 | ⟨dd, fs, k1, k2, k3, k4⟩
  · exact .inl h3
  · exact .inr ⟨dd, fs, k1, k2, k3, reps_unl _ _ n k4⟩
theorem xAt_lm (hM : M.lm = L0) {x : XD} {cls : Value} {d : Option Addr} (h : xAt M F x cls d H) : xAt (M.wl L) F x cls d H := by
  obtain ⟨C, h1, h2, h3⟩ := h
  refine ⟨C, h1, h2, ?_⟩
  rcases h3 with h3 | ⟨dd, fs, k1, k2, k3, k4⟩
  · exact .inl h3
  · exact .inr ⟨dd, fs, k1, k2, k3, reps_lm hM _ _ k4⟩
end
/-! the captured names are data from then on -/
def frz1 (i : Nat) (δ : Sl) : Sl := match δ[i]? with
  | some (some (.own o)) => δ.set i (some (.imm o.toD))
  | _ => δ
def frzS : List Nat → Sl → Sl
  | [], δ => δ
  | i :: is, δ => frzS is (frz1 i δ)
def immP (δ : Sl) : Sl := δ.map fun x => match x with
  | some (.imm d) => some (.imm d)
  | _ => none
def thk (fb : FE) (δ : Sl) : Res D := match frz fb (immP δ) with
  | .ok d _ => .ok d []
  | .exc x _ => .exc x []
  | .bad => .bad
/-- the call of what the slot i holds -/
def fRes (i : Nat) (res : Res D) : FE := fun δ => match δ[i]? with
  | some (some (.imm .lam)) => (match res with
    | .ok d _ => .ok (.imm d) δ
    | .exc x _ => .exc x δ
    | .bad => .bad)
  | _ => .bad
def outL (r : FR) (δ : Sl) : Res R := match r with
  | .ok (.imm d) _ => if noLam d then .ok (.imm d) δ else .bad
  | .ok (.own o) _ => if noLam o.toD then .ok (.own o) δ else .bad
  | .exc x _ => if noLams x.vs then .exc x δ else .bad
  | _ => .bad
def fLam (ixs : List Nat) (mt : Res D → Fm) (fb : FE) : FE := fun δ => outL (mt (thk fb (frzS ixs δ)) none [.lam]) (frzS ixs δ)
section
variable {M : Gm} {c : Cn M} {F F' H H' : Hp} {σ : L2.St} {δ : Sl}
theorem Ok.frz1 (ok : Ok c F H σ δ) (i : Nat) : ∃ F', Same F F' ∧ Ok c F' H σ (TS.frz1 i δ) := by
  unfold TS.frz1
  split
  · rename_i o q
    obtain ⟨v, e1, e2⟩ := ok.take q
    obtain ⟨F', g, ok', r'⟩ := (ok.drop i).freeze e2
    have ok2 := ok'.setSame (i := i) e1 r'
    rw [List.set_set] at ok2
    exact ⟨F', g, ok2⟩
  · exact ⟨F, Same.refl _, ok⟩
theorem Ok.frzS : ∀ {F : Hp} {δ : Sl} (is : List Nat), Ok c F H σ δ → ∃ F', Same F F' ∧ Ok c F' H σ (TS.frzS is δ)
  | F, _, [], ok => ⟨F, Same.refl _, ok⟩
  | F, _, i :: is, ok => by
    obtain ⟨F1, g1, ok1⟩ := ok.frz1 i
    obtain ⟨F2, g2, ok2⟩ := Ok.frzS is ok1
    exact ⟨F2, g1.trans g2, ok2⟩
theorem Ok.immP (ok : Ok c F H σ δ) (g : Same F F') : SlI (M := M) F' σ (TS.immP δ) := ⟨by unfold TS.immP; simp [ok.len], fun i r e => by
  unfold TS.immP at e
  rw [List.getElem?_map] at e
  cases q : δ[i]? with
  | none => rw [q] at e; cases e
  | some x =>
    rw [q] at e
    cases x with
    | none => simp at e
    | some r0 =>
      cases r0 with
      | imm d =>
        simp at e
        subst e
        obtain ⟨v, e1, e2⟩ := ok.slot i _ q
        exact ⟨d, v, rfl, e1, rep_mono g _ _ e2⟩
      | own o => simp at e
      | brw o => simp at e⟩
end
/-- the def g gets a function value a and calls it; gg: its body, by what the call does -/
structure LamOk (P : Program) (w : World) (M : Gm) (K : PySem.W.Frag) (mg : Str → Option Value) (base : Heap) (k : Nat) (x : Str) (g : Addr) (mt : Res D → Fm) (qg : Str) (pg : Arguments) (bg : List Stmt) (sg : Scope) (fd : FuncData) (a : Str) (Ng : List Str) (gg : Res D → FS) : Prop where
  fd_ : FunD K x qg pg bg sg [] [] g fd
  kp : PySem.W.keepIn K (.ref g) = true
  sc : FnScope Ng [a] sg
  bi : Binds K fd [a] []
  mt_ : ∀ r, mt r = mir Ng.length 1 (gg r)
  run : ∀ (L : Lm) (res : Res D) (cdv : Value) (A : Around) (outer : List Env) (s : Shared) (H : Hp) (E : XK), TS.Room k (A.deeper (PyProof.Rows.envOfC qg sg s.heap.objs.size g cdv)) →
    Takes (cxOf (L2.CX P w) P w K mg base Ng qg sg g cdv A outer s H E) (fun cls d _ H => E cls d H) →
    PassesOwn (model P w) (A.deeper (PyProof.Rows.envOfC qg sg s.heap.objs.size g cdv)) (PyProof.Rows.envOfC qg sg s.heap.objs.size g cdv) (cxOf (L2.CX P w) P w K mg base Ng qg sg g cdv A outer s H E).xe →
    (∀ (W : WX) (pn : List (Addr × Obj)) (xe : Value → Shared → Prop) (p1 p2 : Pos), Takes ((cxOf (L2.CX P w) P w K mg base Ng qg sg g cdv A outer s H E).tr pn xe) W → DE (M.wl L) W ((cxOf (L2.CX P w) P w K mg base Ng qg sg g cdv A outer s H E).tr pn xe) (.Call (.Name a p1) [] [] p2) (fRes 0 res)) →
    DSs (M.wl L) (fun cls d _ H => E cls d H) (cxOf (L2.CX P w) P w K mg base Ng qg sg g cdv A outer s H E) bg (gg res)
section
variable {X : Cx} {W : WX} {M : Gm}
def canE (M : Gm) (W : WX) (f : FE) : TE := fun σ H Q => ∃ (c : Cn M) (F : Hp) (δ : Sl), Ok c F H σ δ ∧ Post c W F σ (ρR c σ) (f δ) Q
theorem de_can {e : Expr} {f : FE} (p : PE X e (canE M W f)) : DE M W X e f := ⟨_, p, fun c F H σ δ Q ok post => ⟨c, F, δ, ok, post⟩⟩
/-- the lambda is called, in the def that got it -/
theorem act_de {pins : List (Addr × Obj)} {s : Shared} {σ : L2.St} {H F0 F1 : Hp} {δ : Sl} {c : Cn M} {f c' g : Addr} {params : Arguments} {body : Expr} {scope : Scope} {pm ctv cdg : Value} {Ng : List Str} {qg : Str} {sg : Scope} {a : Str} {kb : Nat} {fb : FE} {EZ : XK} {L : Lm} {pn : List (Addr × Obj)} {xe : Value → Shared → Prop} {WZ : WX} {p1 p2 : Pos}
    (hM : M.lm = L0) (I : Inv X pins σ H s) (hS : LamX.LamS X.env.scope scope) (hf : s.heap.get? f = some (PySem.W.kla_obj "<lambda>" (X.env.qual ++ "<lambda>") params body scope (cloFrom X.env.cells scope.names []) pm c' ctv)) (hfn : H f = none) (hfr : f ∉ frs X.stack)
    (hbi : bindArgs (PySem.W.kla_fn "<lambda>" (X.env.qual ++ "<lambda>") params body scope (cloFrom X.env.cells scope.names []) pm (.ref c') ctv) ⟨[], []⟩ = pure [])
    (ok : Ok c F0 H σ δ) (g01 : Same F0 F1) (hc : F1 c' = some (LamX.CodeO c' (X.env.qual ++ "<lambda>"))) (hL : ∀ F v, L.p F v ↔ (v = V.ref f ∧ Same F1 F))
    (hr : TS.Room (kb + 1) (X.A.deeper (PyProof.Rows.envOfC qg sg s.heap.objs.size g cdg)))
    (tk : Takes ((cxOf (L2.CX X.prog X.w) X.prog X.w X.K X.mg X.base Ng qg sg g cdg X.A X.stack s H EZ).tr pn xe) WZ)
    (hbody : ∀ (A : Around) (outer : List Env) (s : Shared) (H : Hp) (E : XK), TS.Room kb (A.deeper (LamX.lamEnv X scope s.heap.objs.size f c')) → Takes (LamX.lamCx X A outer s H E scope f c') (fun cls d _ H => E cls d H) → DE M (fun cls d _ H => E cls d H) (LamX.lamCx X A outer s H E scope f c') body fb)
    (hN : Ng[0]? = some a) (hv : Vis sg a) (hd : (a == ("__debug__" : Str)) = false) (hcd : (a == ("__classdict__" : Str)) = false) :
    DE (M.wl L) WZ ((cxOf (L2.CX X.prog X.w) X.prog X.w X.K X.mg X.base Ng qg sg g cdg X.A X.stack s H EZ).tr pn xe) (.Call (.Name a p1) [] [] p2) (fRes 0 (thk fb δ)) := by
  refine de_can ⟨fun pinsZ sZ σZ HZ Q IZ ⟨cZ, FZ, δZ, okZ, post⟩ => ?_⟩
  unfold fRes at post
  split at post
  case h_2 => exact post.elim
  rename_i q0
  obtain ⟨v0, e0, r0⟩ := okZ.slot 0 _ q0
  have r0 : L.p FZ v0 := by
    have r0 : rep (M.wl L) FZ .lam v0 := r0
    unfold rep at r0
    exact r0
  obtain ⟨ev, gZ⟩ := (hL _ _).mp r0
  subst ev
  refine wpAny_Call_Name_kw (thn ((pe_var (pos := p1) (i := 0) hN hv hd hcd).run pinsZ sZ σZ HZ (fun v H1 => v = .ref f ∧ H1 = HZ) IZ ⟨.ref f, e0, rfl, rfl⟩) fun u s1 ⟨v, H1, I1, r1, q1, q2⟩ => ?_)
  subst q1 q2
  obtain rfl : u = Value.ref f := r1
  have fat := I1.base.keep f _ hf hfn hfr (fun z => nomatch (show f ∈ ([] : List Addr) from z))
  refine PySem.W.callWith_F0 ⟨_, _, _, _, fat⟩ ?_
  have un : Un (frs X.stack) [] H H1 s.heap s1.heap := I1.base
  have hcZ : H1 c' = some (LamX.CodeO c' (X.env.qual ++ "<lambda>")) := okZ.same _ _ (gZ _ _ hc)
  obtain ⟨⟨oc, vs, t, hoc, hdc, hvc⟩, _, _⟩ := I1.hok c' _ hcZ
  have rc : codeAny (model X.prog X.w) (X.A.deeper (PyProof.Rows.envOfC qg sg s.heap.objs.size g cdg)) (.call (.ref f) ⟨[], []⟩) (CR (L2.CX X.prog X.w) (PyProof.Rows.envOfC qg sg s.heap.objs.size g cdg :: X.stack) X.prog X.w H1 s1 Q (WE WZ σZ)) s1 := by
    refine PySem.W.kla_callFunE hr.depth fat rfl hS.co hS.gen rfl ⟨c', oc, vs, t, rfl, hoc, hdc, hvc⟩ ?_
    rw [hbi]
    refine wpAny_pure (wpAny_newFunctionEnv (fun y hy => (hS.own y hy).2) (fun y hy => absurd hy (by simp)) (fun h₁ hns hsb => ⟨I1.nolimit.fresh _ hsb, ?_⟩) hS.kind)
    have kp : ∀ b o, s1.heap.get? b = some o → h₁.get? b = some o := fun b o e => hsb.extBut b o (Nat.ne_of_lt (Heap.lt_size e)) (Heap.get?_push_of_some _ e)
    have J := LamX.lam_start2 (tk := s1.toks + ([] : List (Str × Value)).length) (E := WE WZ σZ) (f := f) (c' := c') I hS I1.env0 hr.hd un hns kp
    obtain ⟨tt, pt, ht⟩ := hbody _ _ s1 H1 (WE WZ σZ) (hr.deeper _) (takes_of rfl rfl rfl rfl)
    refine PySem.W.kla_codeExpr (wpAny_mono (pt.run [] _ _ H1 Q J (ht (frm M FZ H1) FZ H1 σ (immP δ) Q ((ok.immP (g01.trans gZ)).ok okZ.same ⟨okZ.tb.tab, okZ.tb.fr, okZ.tb.nt⟩) ?_)) (fun v s' hq => ?_) fun e s' hq => hq)
    · unfold thk at post
      unfold frz at post
      cases qb : fb (immP δ) with
      | bad => rw [qb] at post; exact post.elim
      | exc x δ2 =>
        rw [qb] at post
        intro cls d F' H' g' ok' xa
        have st := stp_back ok'
        exact post cls d F' H' g' (okZ.stp ⟨st.grow, st.nofz, st.kept, st.same, st.tb.tab, st.tb.fr, st.tb.nt⟩) (xAt_lm hM xa)
      | ok r δ2 =>
        rw [qb] at post
        intro v F' H' g' ok' rr
        cases r with
        | brw o => exact (show False from rr).elim
        | imm d =>
          have st := stp_back ok'
          exact post v F' H' g' (okZ.stp ⟨st.grow, st.nofz, st.kept, st.same, st.tb.tab, st.tb.fr, st.tb.nt⟩) (rep_lm hM d v rr)
        | own o =>
          obtain ⟨F2, g2, ok2, r2⟩ := ok'.freeze rr
          have st := stp_back ok2
          exact post v F2 H' (g'.trans g2) (okZ.stp ⟨st.grow, st.nofz, st.kept, st.same, st.tb.tab, st.tb.fr, st.tb.nt⟩) (rep_lm hM _ v r2)
    · obtain ⟨w', H', J', rv, q⟩ := hq
      exact ⟨w', H', J'.os, J'.bare, J'.base, J'.hok, rv, q⟩
  refine wpAny_call (codeAny_mono rc fun r s' hq => ?_)
  cases r with
  | error e => exact passAt tk σZ pinsZ H1 s1 e s' I1 hq
  | ok fl =>
    cases fl with
    | ret u => exact I1.after hq
    | next => exact False.elim hq
    | brk => exact False.elim hq
    | cont => exact False.elim hq
/-- g(lambda: body) -/
theorem d_lam {x : Str} {g cO PO : Addr} {j k kb : Nat} {mt : Res D → Fm} {qg : Str} {pg : Arguments} {bg : List Stmt} {sg : Scope} {fd : FuncData} {a : Str} {Ng : List Str} {gg : Res D → FS} {ixs : List Nat} {fb : FE} {params : Arguments} {body : Expr} {scope : Scope} {p lpos pos : Pos}
    (hL : LamOk X.prog X.w M X.K X.mg X.base k x g mt qg pg bg sg fd a Ng gg) (hM : M.lm = L0) (hg : Gl X x) (hmx : X.mg x = some (.ref g)) (tk : Takes X W) (hr : TS.Room j X.A) (h1 : k + 1 ≤ j) (h2 : kb + 2 ≤ j)
    (TB : LamX.TabB X.base X.mg cO PO) (hcode : X.env.code = .ref cO) (hmT : (PO, X.env.qual ++ "<lambda>") ∈ M.T) (hu : ∀ p ∈ M.T, p.1 = PO → p.2 = X.env.qual ++ "<lambda>") (hS : LamX.LamS X.env.scope scope)
    (hbody : ∀ (A : Around) (outer : List Env) (s : Shared) (H : Hp) (E : XK) (f c' : Addr), TS.Room kb (A.deeper (LamX.lamEnv X scope s.heap.objs.size f c')) → Takes (LamX.lamCx X A outer s H E scope f c') (fun cls d _ H => E cls d H) → DE M (fun cls d _ H => E cls d H) (LamX.lamCx X A outer s H E scope f c') body fb)
    (hN : Ng[0]? = some a := by rfl) (hv : Vis sg a := by first | exact Or.inl rfl | exact Or.inr (Or.inl rfl) | exact Or.inr (Or.inr rfl)) (hdef : defaultsOf params X.env = ([], []) := by rfl) (hbi : ∀ (q : Str) (cl : List (Str × Addr)) (pm cv ctv : Value), bindArgs (PySem.W.kla_fn "<lambda>" q params body scope cl pm cv ctv) ⟨[], []⟩ = pure [] := by exact fun _ _ _ _ _ => rfl)
    (hdb : (x == ("__debug__" : Str)) = false := by decide) (hd : (a == ("__debug__" : Str)) = false := by decide) (hcd : (a == ("__classdict__" : Str)) = false := by decide) :
    DE M W X (.Call (.Name x p) [.Lambda params body scope lpos] [] pos) (fLam ixs mt fb) := by
  refine de_can ⟨fun pins s σ H Q I ⟨c, F, δ, ok, post⟩ => ?_⟩
  obtain ⟨F0, g0, ok0⟩ := ok.frzS ixs
  have post := Post.shift post g0
  unfold fLam at post
  rw [hL.mt_] at post
  generalize frzS ixs δ = δ1 at post ok0
  refine wpAny_Call_Name_kw (ld_glob I hg hmx ?_ hdb)
  refine PySem.W.callWith_K (h₀ := X.base) I.ok.mod.kin hL.kp ?_ (by rfl) (by rfl)
  refine Calls.spliced_cons (LamX.lam_make2 I TB hcode hmT hu ok0.tb.tab hdef (hS.has I.ok) fun f c' pm' ctv H1 s' I1 eN T1 hf hfn hfr hco => ?_)
  refine Calls.spliced_nil ⟨I1.kIn, ?_⟩
  have s0 : Same F0 H1 := fun b o e => eN b o (ok0.same b o e) (fun ps z => ok0.tb.nt b ps (z ▸ e))
  let F1 : Hp := fun b => if b = c' then some (LamX.CodeO c' (X.env.qual ++ "<lambda>")) else F0 b
  have F1c : F1 c' = some (LamX.CodeO c' (X.env.qual ++ "<lambda>")) := if_pos rfl
  have F1n : ∀ b, b ≠ c' → F1 b = F0 b := fun b h => if_neg h
  have g01 : Same F0 F1 := fun b o e => by
    by_cases z : b = c'
    · have := s0 b o e
      rw [z, hco] at this
      rw [z, F1c, this]
    · rw [F1n b z]; exact e
  have s1 : Same F1 H1 := fun b o e => by
    by_cases z : b = c'
    · rw [z, F1c] at e; cases e; rw [z]; exact hco
    · rw [F1n b z] at e; exact s0 b o e
  have tb1 : Tb M F1 H1 := ⟨T1, fun q hq => by
    obtain ⟨ps, e1, _⟩ := T1 q hq
    have z : q.1 ≠ c' := fun z => by rw [z, hco] at e1; cases e1
    rw [F1n _ z]; exact ok0.tb.fr q hq, fun b ps e => by
    by_cases z : b = c'
    · rw [z, F1c] at e; cases e
    · rw [F1n b z] at e; exact ok0.tb.nt b ps e⟩
  have nt1 : ∀ b o, H b = some o → NT o → H1 b = some o := fun b o e n => eN b o e (fun ps z => by rw [z] at n; cases n)
  let L : Lm := ⟨fun F v => v = V.ref f ∧ Same F1 F, fun {F F' v} g h => ⟨h.1, h.2.trans g⟩, fun h => ⟨f, h.1⟩⟩
  -- what the call gives back, seen from here
  have back : ∀ {F' H' : Hp}, Stp (M.wl L) F1 H1 F' H' none → Stp M F0 H F' H' none := fun {F' H'} st => by
    refine ⟨g01.trans st.grow, fun b o e n z => ?_, fun b o e n _ => st.kept b o (nt1 b o e n) n (fun z => nomatch z), st.same, ⟨st.tb.tab, st.tb.fr, st.tb.nt⟩⟩
    have k1 := nt1 b o e n
    have hb : b ≠ c' := fun z => by rw [z, hco] at k1; cases k1; cases n
    exact st.nofz b o k1 n (by rw [F1n b hb]; exact z)
  have rc : codeAny (model X.prog X.w) X.A (.call (.ref g) ⟨[.ref f], []⟩) (CR (L2.CX X.prog X.w) X.stack X.prog X.w H1 s' Q (WE W σ)) s' := by
    obtain ⟨oc, od, dV, kV, doc, pm, an, cdv, ct, osl, rfl, lk, hcg, _, _⟩ := hL.fd_.ex
    refine LamX.run_ofS (k := k) (N := Ng) (ps := [a]) (us := [.ref f]) (vs := [.ref f]) lk hcg hL.sc (L2.Room.mono hr.lo h1) I1.env0 (hL.bi s' [.ref f] I1.kIn rfl) (.cons rfl .nil) rfl fun _ => ?_
    have hr2 : TS.Room k (X.A.deeper (PyProof.Rows.envOfC qg sg s'.heap.objs.size g cdv)) := (hr.mono h1).deeper _
    obtain ⟨t, pt, ht⟩ := hL.run L (thk fb δ1) cdv X.A X.stack s' H1 (WE W σ) hr2 (takes_of rfl rfl rfl rfl) (passes_of rfl) fun WZ pn xe p1 p2 tkZ =>
      act_de (kb := kb) hM I1 hS hf hfn hfr (hbi _ _ _ _ _) (⟨s0, ok0.grow, ok0.nofz, fun b o e i => nt1 b o (ok0.kept b o e i) (c.nt b o e), fun b e => by
        obtain ⟨u, q1, q2⟩ := ok0.ioh b e
        exact ⟨u, nt1 b u q1 q2, q2⟩, ⟨T1, ok0.tb.fr, ok0.tb.nt⟩, ok0.len, fun i r e => by
        obtain ⟨v, q1, q2⟩ := ok0.slot i r e
        refine ⟨v, q1, ?_⟩
        cases r with
        | imm d => exact q2
        | own o =>
          obtain ⟨b, rfl, k1, k2, k3⟩ := q2
          obtain ⟨u, hu, hn⟩ := obAt_nt k3
          exact ⟨b, rfl, k1, k2, obAt_mono (Same.refl _) ((nt1 b u hu hn).trans hu.symm) k3⟩
        | brw o =>
          obtain ⟨b, rfl, k1, k2, k3⟩ := q2
          obtain ⟨u, hu, hn⟩ := obAt_nt k3
          exact ⟨b, rfl, k1, k2, obAt_mono (Same.refl _) ((nt1 b u hu hn).trans hu.symm) k3⟩, ok0.dist⟩ : Ok c F0 H1 σ δ1) g01 F1c (fun F v => Iff.rfl) (((hr.mono h2).deeper _)) tkZ (fun A outer s H E hr3 tk3 => hbody A outer s H E f c' hr3 tk3) hN hv hd hcd
    refine ⟨t, pt, body_ok (M := M.wl L) (np := 1) (g := gg (thk fb δ1)) ?_ ?_ ht⟩
    · have := List.getElem?_eq_some_iff.mp hN
      exact this.1
    · refine ⟨F1, none, 0, [.ref f], [.lam], rfl, s1, ⟨tb1.tab, tb1.fr, tb1.nt⟩, reps_cons (by unfold rep; exact ⟨rfl, Same.refl _⟩) reps_nil, trivial, ?_⟩
      unfold outL at post
      cases q : mir Ng.length 1 (gg (thk fb δ1)) none [.lam] with
      | bad => rw [q] at post; exact post.elim
      | exc y io =>
        rw [q] at post
        dsimp only at post
        split at post
        · rename_i hn
          intro cls d F' H' st xa _
          have st2 := back st
          exact post cls d F' H' st2.grow (ok0.stp st2) (xAt_unl hn xa)
        · exact post.elim
      | ok r io =>
        rw [q] at post
        cases r with
        | brw o => exact post.elim
        | imm d =>
          dsimp only at post
          split at post
          · rename_i hn
            intro v F' H' st ra _
            have st2 := back st
            exact post v F' H' st2.grow (ok0.stp st2) (rep_unl d v hn ra)
          · exact post.elim
        | own o =>
          dsimp only at post
          split at post
          · rename_i hn
            intro v F' H' st ra _
            have st2 := back st
            obtain ⟨b, rfl, k1, k2, k3⟩ := ra
            exact post _ F' H' st2.grow (ok0.stp st2) (ok0.resR st2 ⟨b, rfl, k1, fun u hu n => k2 u (nt1 b u hu n) n, obAt_unl hn k3⟩)
          · exact post.elim
  refine wpAny_call (codeAny_mono rc fun r s2 hq => ?_)
  cases r with
  | error e => exact passAt tk σ pins H1 s' e s2 I1 hq
  | ok fl =>
    cases fl with
    | ret u => exact I1.after hq
    | next => exact False.elim hq
    | brk => exact False.elim hq
    | cont => exact False.elim hq
end
end
end TS

set_option maxRecDepth 100000
set_option maxHeartbeats 4000000
/-! TSw: repr of data with dicts in it. -/
namespace TS
open PySem L2
noncomputable section
/-- sys.modules is a dict -/
def SmK (K : PySem.W.Frag) : Prop := ∃ o, K.lookup sysModules = some o ∧ o.cls = .type "dict"
theorem smd_ok {K : PySem.W.Frag} (h : (Fx.smd).ok K = true) : SmK K := by
  have h : (match K.lookup sysModules with | some ⟨.type c, _, _, _⟩ => decide (c = "dict") | _ => false) = true := h
  split at h
  · rename_i c od dd sl e
    have := of_decide_eq_true h
    subst this
    exact ⟨_, e, rfl⟩
  · cases h
def kP : Key → PyData
  | .inl i => .int i
  | .inr x => .str x
mutual
def toPd : D → Option PyData
  | .non => some .none
  | .bl b => some (.bool b)
  | .int i => some (.int i)
  | .str x => some (.str x)
  | .lst ds => (toPds ds).map PyData.list
  | .tup ds => (toPds ds).map PyData.tuple
  | .dK ks ds => (toPds ds).map fun ps => PyData.dict ((ks.map kP).zip ps)
  | _ => none
def toPds : List D → Option (List PyData)
  | [] => some []
  | d :: ds => (toPd d).bind fun p => (toPds ds).map fun ps => p :: ps
end
section
variable {M : Gm} {F H : Hp} {X : Cx} {pins : List (Addr × Obj)} {σ : St} {s : Shared}
theorem pairs_keys {w : World} {P : Program} : ∀ {es : List DictEntry} {vs : List (Key × Value)}, Pairs (mixKind P w) es vs → ReadsAll s.heap (es.map (·.key)) ((vs.map (·.1)).map kP) []
  | _, _, .nil => .nil
  | _, _, .cons (e := e) (kv := kv) h _ t => by
    have r := pairs_keys t
    have h1 : ∃ as, Reads s.heap e.key (kP kv.1) as ∧ as = [] := by
      rcases keyIs_shape h with ⟨i, u, h1, h2⟩ | ⟨x, u, h1, h2⟩
      · rw [h1, h2]; exact ⟨_, .int i u, rfl⟩
      · rw [h1, h2]; exact ⟨_, .str x u, rfl⟩
    obtain ⟨as, h1, rfl⟩ := h1
    exact ReadsAll.cons h1 r
theorem pairs_vals {w : World} {P : Program} : ∀ {es : List DictEntry} {vs : List (Key × Value)}, Pairs (mixKind P w) es vs → es.map (·.val) = vs.map (·.2)
  | _, _, .nil => rfl
  | _, _, .cons _ h t => by rw [List.map_cons, List.map_cons, h, pairs_vals t]
theorem kv_vals : ∀ {kvs : List (Key × V)} {vs : List (Key × Value)}, KV kvs vs → Vals (kvs.map (·.2)) (vs.map (·.2)) ∧ kvs.map (·.1) = vs.map (·.1)
  | _, _, .nil => ⟨.nil, rfl⟩
  | _, _, .cons h t => by
    obtain ⟨h1, h2⟩ := kv_vals t
    exact ⟨.cons h.2 h1, by rw [List.map_cons, List.map_cons, h.1, h2]⟩
theorem toPds_len : ∀ {ds : List D} {ps : List PyData}, toPds ds = some ps → ps.length = ds.length
  | [], ps, h => by unfold toPds at h; cases h; rfl
  | d :: ds, ps, h => by
    unfold toPds at h
    obtain ⟨p, _, h⟩ := Option.bind_eq_some_iff.mp h
    obtain ⟨ps', h1, rfl⟩ := Option.map_eq_some_iff.mp h
    simp [toPds_len h1]
mutual
theorem rep_reads (I : Inv X pins σ H s) (hs : Same F H) (hK : X.K = M.K) (sm : SmK X.K) : ∀ (d : D) (v : V) (u : Value) (p : PyData), rep M F d v → toPd d = some p → RelV v u → ∃ as, Reads s.heap u p as ∧ sysModules ∉ as
  | .non, v, u, p, h, e, r => by
    unfold rep at h; unfold toPd at e; cases e; subst h; cases r
    exact ⟨_, .none, by simp⟩
  | .bl b, v, u, p, h, e, r => by
    unfold rep at h; unfold toPd at e; cases e; subst h; cases r
    exact ⟨_, .bool b, by simp⟩
  | .int i, v, u, p, h, e, r => by
    unfold rep at h; unfold toPd at e; cases e; subst h; obtain ⟨t, rfl⟩ := r
    exact ⟨_, .int i t, by simp⟩
  | .str x, v, u, p, h, e, r => by
    unfold rep at h; unfold toPd at e; cases e; subst h; obtain ⟨t, rfl⟩ := r
    exact ⟨_, .str x t, by simp⟩
  | .lst ds, v, u, p, h, e, r => by
    unfold rep at h; unfold toPd at e
    obtain ⟨a, vs, rfl, h2, h3⟩ := h
    obtain ⟨ps, e1, rfl⟩ := Option.map_eq_some_iff.mp e
    cases r
    obtain ⟨its, rv, ⟨o, n, ho, hc, _, hd⟩, _⟩ := I.list (SqL.of (K := X.K) (hs _ _ h2))
    obtain ⟨as, k1, k2⟩ := reps_reads I hs hK sm ds vs its ps h3 e1 rv
    refine ⟨_, Reads.list ho hc hd k1, fun z => ?_⟩
    rcases List.mem_cons.mp z with z | z
    · obtain ⟨o2, q1, q2⟩ := sm
      have := I.kIn _ _ q1
      rw [z, ho] at this
      have e3 := Option.some.inj this
      rw [← e3, hc] at q2
      injection q2 with q3
      exact absurd q3 (by decide)
    · exact k2 z
  | .tup ds, v, u, p, h, e, r => by
    unfold rep at h; unfold toPd at e
    obtain ⟨a, vs, rfl, h2, h3⟩ := h
    obtain ⟨ps, e1, rfl⟩ := Option.map_eq_some_iff.mp e
    cases r
    obtain ⟨its, rv, ⟨o, ho, hc, n, hd⟩, _⟩ := I.tuple (SqT.of (K := X.K) (hs _ _ h2))
    obtain ⟨as, k1, k2⟩ := reps_reads I hs hK sm ds vs its ps h3 e1 rv
    exact ⟨_, Reads.tuple ho hc hd k1, k2⟩
  | .dK ks ds, v, u, p, h, e, r => by
    unfold rep at h; unfold toPd at e
    obtain ⟨a, kvs, rfl, h2, h3, h4⟩ := h
    obtain ⟨ps, e1, rfl⟩ := Option.map_eq_some_iff.mp e
    cases r
    obtain ⟨_, hsm, vs, kv, o, es, ep, ho, hx, hd, _, hp, _⟩ := dk_of I.hok (hs _ _ h2)
    obtain ⟨rv, ek⟩ := kv_vals kv
    rw [← pairs_vals hp] at rv
    obtain ⟨as, k1, k2⟩ := reps_reads I hs hK sm ds _ _ ps h4 e1 rv
    have kk := pairs_keys (s := s) hp
    rw [← ek, h3] at kk
    have hl : ps.length = ks.length := by
      rw [toPds_len e1, ← reps_length h4, ← h3]; simp
    refine ⟨_, Reads.dict ho hx.1 hd (kvs := (ks.map kP).zip ps) (as := []) (bs := as) ?_ ?_, ?_⟩
    · rw [List.map_fst_zip (by simp [hl])]; exact kk
    · rw [List.map_snd_zip (by simp [hl])]; exact k1
    · intro z
      simp only [List.append_nil, List.cons_append, List.nil_append, List.mem_cons] at z
      rcases z with z | z
      · rw [← z] at hsm; simp at hsm
      · exact k2 z
  | .scr ds, v, u, p, h, e, r => by unfold toPd at e; cases e
  | .dT _ ds, v, u, p, h, e, r => by unfold toPd at e; cases e
  | .obj _ ds, v, u, p, h, e, r => by unfold toPd at e; cases e
  | .cls _, v, u, p, h, e, r => by unfold toPd at e; cases e
  | .lam, v, u, p, h, e, r => by unfold toPd at e; cases e
theorem reps_reads (I : Inv X pins σ H s) (hs : Same F H) (hK : X.K = M.K) (sm : SmK X.K) : ∀ (ds : List D) (vs : List V) (us : List Value) (ps : List PyData), reps M F ds vs → toPds ds = some ps → Vals vs us → ∃ as, ReadsAll s.heap us ps as ∧ sysModules ∉ as
  | [], vs, us, ps, h, e, r => by
    unfold reps at h; unfold toPds at e; cases e; subst h; cases r
    exact ⟨_, .nil, by simp⟩
  | d :: ds, vs, us, ps, h, e, r => by
    unfold reps at h; unfold toPds at e
    obtain ⟨v, vs', rfl, h1, h2⟩ := h
    obtain ⟨p, e1, e⟩ := Option.bind_eq_some_iff.mp e
    obtain ⟨ps', e2, rfl⟩ := Option.map_eq_some_iff.mp e
    cases r with
    | cons r1 r2 =>
      obtain ⟨as, k1, k2⟩ := rep_reads I hs hK sm d v _ p h1 e1 r1
      obtain ⟨bs, k3, k4⟩ := reps_reads I hs hK sm ds vs' _ ps' h2 e2 r2
      exact ⟨_, .cons k1 k3, by simp [k2, k4]⟩
end
end
def shOkD (p : PyData) : Bool := gd (p.showable = true ∧ p.depth ≤ 32 ∧ p.shown.length ≤ sizeLine)
def gReprD (d : D) : Option Str := match toPd d with
  | some p => if shOkD p then some p.shown else none
  | none => none
/-- repr of what may hold dicts -/
def fReprD (fa : FD) : FD := fun δ => (fa δ).bind fun d δ1 => match gReprD d with
  | some x => .ok (.str x) δ1
  | none => .bad
section
variable {X : Cx} {M : Gm} {W : WX} {e : Expr} {fa : FD} {p pos : Pos}
theorem call_reprX {k : Nat} (hr : Room k X.A) {F H : Hp} {d : D} {q : PyData} {x : V} (hs : Same F H) (hK : X.K = M.K) (sm : SmK X.K) (rx : rep M F d x) (hd : toPd d = some q) (ho : shOkD q = true) {pins : List (Addr × Obj)} {s : Shared} {σ : St} {u : Value} {Q : VK} (I : Inv X pins σ H s) (ru : RelV x u) (h : Q (.str q.shown) H) :
    wpAny (model X.prog X.w) X.A (call (.builtin "repr") [u]) (EP X pins σ Q) X.xe s := by
  obtain ⟨h1, h3, h4⟩ := of_gd ho
  obtain ⟨as, rd, na⟩ := rep_reads I hs hK sm d x u q rx hd ru
  have hu := hr.units
  have fin : ∀ (h' : Heap) (t : Tok) (tk : Nat), (∀ b o, s.heap.get? b = some o → h'.get? b = some o) → EP X pins σ Q (.str q.shown t) { s with heap := h', toks := tk } := fun h' t tk kp => ⟨.str _, H, I.kept kp, ⟨_, rfl⟩, h⟩
  cases rd with
  | none => exact PySem.P.repr_of_none ⟨.str _, H, I.tok _, ⟨_, rfl⟩, h⟩
  | bool b => exact PySem.P.repr_of_bool ⟨.str _, H, I.tok _, ⟨_, rfl⟩, h⟩
  | int i t => exact PySem.P.repr_of_int (of_decide_eq_true h1) ⟨.str _, H, I.tok _, ⟨_, rfl⟩, h⟩
  | str y t => exact PySem.P.repr_of_str ⟨.str _, H, I.tok _, ⟨_, rfl⟩, h⟩ h4
  | list a1 a2 a3 a4 => exact repr_of_reads' (.list a1 a2 a3 a4) h1 (fun _ => na) hr.gu (by omega) (fun _ _ e => e) (fun h' u tk kp => fin h' u tk kp) h4
  | tuple a1 a2 a3 a4 => exact repr_of_reads' (.tuple a1 a2 a3 a4) h1 (fun _ => na) hr.gu (by omega) (fun _ _ e => e) (fun h' u tk kp => fin h' u tk kp) h4
  | dict a1 a2 a3 a4 a5 => exact repr_of_reads' (.dict a1 a2 a3 a4 a5) h1 (fun _ => na) hr.gu (by omega) (fun _ _ e => e) (fun h' u tk kp => fin h' u tk kp) h4
theorem b_reprX {k : Nat} (sm : SmK X.K) (hr : Room k X.A) (hg : Gl X "repr") (hm : X.mg "repr" = none) (ha : DI M W X e fa) (hK : X.K = M.K := by rfl) (he : starEach (e :: []) X.env = (false, eval e X.env) :: starEach [] X.env := by rfl) (hpl : (backTo pos (starEach [] X.env)).any (·.1) = false := by rfl) : DI M W X (.Call (.Name "repr" p) [e] [] pos) (fReprD fa) := by
  obtain ⟨t, pt, ha⟩ := ha
  let r : List V → Hp → VK → Prop := fun xs H Q => ∃ (F : Hp) (d : D) (x : V) (q : PyData), xs = [x] ∧ Same F H ∧ rep M F d x ∧ toPd d = some q ∧ shOkD q = true ∧ Q (.str q.shown) H
  have cr : CallR X (.builtin "repr") r := by
    rintro pins s σ H xs us Q I rv ⟨F, d, x, q, rfl, hs, rx, hd, ho, h⟩
    obtain ⟨u, rfl, ru⟩ := vals1 rv
    exact call_reprX hr hs hK sm rx hd ho I ru h
  refine ⟨_, pe_callB cr hg hm bt_repr (pa_cons pt pa_nil he) (by decide) (by decide) he hpl, fun c F H σ δ Q ok post => ?_⟩
  refine ha c F H σ δ _ ok (Post.bind post fun d δ1 v F1 H1 _ s1 ok1 rr post => ?_)
  unfold gReprD at post
  split at post
  · rename_i x q
    split at q
    · rename_i p' hp'
      split at q
      · rename_i hsh
        cases q
        exact ⟨F1, d, v, p', rfl, ok1.same, rr, hp', hsh, post.ok ok1 (rep_str' _)⟩
      · cases q
    · cases q
  · exact post.elim
end
end
end TS

set_option maxRecDepth 100000
set_option maxHeartbeats 4000000
/-! TSx: instances that are called. -/
namespace TS
open PySem L2 PySem.W
noncomputable section
/-- the call's node over an instance, whatever stands there behind the arguments -/
theorem inst_with {M : Model} {A : Around} {E : Value → Shared → Prop} {s : Shared} {a : Addr} {pos : Pos} {Q : Value → Shared → Prop} {args : List (Bool × Sem Value)} {kwl : List (Option Str × Sem Value)} (hp : (args.any (·.1) || kwl.any (·.1.isNone)) = false)
    (h : wpAny M A (evalArgs (.ref a) true args kwl) (fun z s1 => (∃ C ox od, InstAt s1.heap a ox C od ∧ ox.data = .plain) ∧ wpAny M A (call (.ref a) ([] ++ z.pos) z.kw) Q E s1) E s) : wpAny M A (callWith pos (.ref a) [] args kwl) Q E s := by
  unfold callWith
  refine wpAny_bind (wpAny_holding (wpAny_mono h (fun z s1 q => wpAny_bind (wpAny_standAt ?_)) fun _ _ y => y))
  obtain ⟨⟨C, ox, od, J, jd⟩, q⟩ := q
  have kk := kco_keeper (M := M) J jd
  simp only [hp]
  refine wpAny_bind (kk.here ?_)
  exact (fun {t : Sem Value} (w : wpAny M A t Q E s1) => (wpAny_bind (wpAny_mono w (fun r s2 y => wpAny_bind (wpAny_holding (wpAny_point (wpAny_pure y)))) fun _ _ y => y) : wpAny M A (t >>= fun r => holding [r] point >>= fun _ => pure r) Q E s1)) (wpAny_operateT q)
/-- the own classes whose instances may be called, and by what -/
def CallT (M : Gm) (P : Program) (w : World) (mg : Str → Option Value) (base : Heap) (k : Nat) (tab : Nat → Option Fm) : Prop := ∀ n f, tab n = some f → ∃ C g, M.G n = some C ∧ StX.CallO M.K C g ∧ FnR P w M.K mg base (L2.CX P w) k g (spD M f)
def CallTK (M : Gm) (P : Program) (w : World) (mg : Str → Option Value) (base : Heap) (k : Nat) (ks : List Str) (tab : Nat → Option Fm) : Prop := ∀ n f, tab n = some f → ∃ C g, M.G n = some C ∧ StX.CallO M.K C g ∧ FnK P w M.K mg base (L2.CX P w) k g 1 ks (spD M f)
section
variable {X : Cx} {W : WX} {M : Gm} {pins : List (Addr × Obj)} {σ : L2.St} {H : Hp} {s : Shared}
theorem ins_inst (I : Inv X pins σ H s) {a C dx : Addr} {fs : List (Str × V)} (e : H a = some (.ins C dx fs)) : ∃ ox od, InstAt s.heap a ox C od ∧ ox.data = .plain := by
  obtain ⟨mA, O, _⟩ := ins_get I.hok e
  obtain ⟨od, J, _⟩ := O.look
  exact ⟨_, _, J, rfl⟩
theorem run_inst {k : Nat} {sp : Sp} {Q : VK} {a g C dx : Addr} {fs : List (Str × V)} {us : List Value} {vs : List V} (c : StX.CallO X.K C g) (F : FnR X.prog X.w X.K X.mg X.base (CXX X) k g sp) (hr : Room k X.A) (tk : Takes X W) (I : Inv X pins σ H s) (e : H a = some (.ins C dx fs)) (r : Vals vs us) (h : sp (V.ref a :: vs) H Q (WE W σ)) :
    wpAny (model X.prog X.w) X.A (call (.ref a) us) (EP X pins σ Q) X.xe s := by
  obtain ⟨ox, od, J, jd⟩ := ins_inst I e
  exact wpAny_call (kco_code I.kIn J jd c.at_ c.fn c.fi (run_fnRS (us := .ref a :: us) (vs := .ref a :: vs) F hr tk I (.cons rfl r) h))
theorem run_instK {k : Nat} {ks : List Str} {sp : Sp} {Q : VK} {a g C dx : Addr} {fs : List (Str × V)} {ws : List Value} {zs : List V} (c : StX.CallO X.K C g) (F : FnK X.prog X.w X.K X.mg X.base (CXX X) k g 1 ks sp) (hr : Room k X.A) (tk : Takes X W) (I : Inv X pins σ H s) (e : H a = some (.ins C dx fs)) (l2 : zs.length = ks.length) (rz : Vals zs ws) (h : sp (V.ref a :: zs) H Q (WE W σ)) :
    wpAny (model X.prog X.w) X.A (call (.ref a) [] (ks.zip ws)) (EP X pins σ Q) X.xe s := by
  obtain ⟨ox, od, J, jd⟩ := ins_inst I e
  refine wpAny_call (kco_code I.kIn J jd c.at_ c.fn c.fi ?_)
  refine codeAny_mono (F X.A X.stack s H [.ref a] ws [.ref a] zs Q (WE W σ) hr I.env0 rfl l2 (.cons rfl .nil) rz h) fun r s' hq => ?_
  cases r with
  | error e => exact passAt tk σ pins H s e s' I hq
  | ok fl =>
    cases fl with
    | ret u => exact I.after hq
    | next => exact False.elim hq
    | brk => exact False.elim hq
    | cont => exact False.elim hq
/-- x(e, ..), x a name -/
theorem d_inst {x : Str} {p pos : Pos} {e : Expr} {es : List Expr} {fo : FD} {fa : FA} {k : Nat} {tab : Nat → Option Fm} (hK : X.K = M.K) (T : CallT M X.prog X.w X.mg X.base k tab) (hr : Room k X.A) (tk : Takes X W) (ho : DI M W X (.Name x p) fo) (ha : DA M W X (e :: es) fa)
    (he : starEach (e :: es) X.env = (false, eval e X.env) :: starEach es X.env := by rfl) (hpl : ((backTo pos (starEach (e :: es) X.env)).any (·.1) || (backToKw pos (keywordEach [] X.env)).any (·.1.isNone)) = false := by rfl) : DE M W X (.Call (.Name x p) (e :: es) [] pos) (fMeth tab fo fa) := by
  obtain ⟨to, po, ho⟩ := ho
  obtain ⟨ta, pa, ha⟩ := ha
  refine de_can ⟨fun pins s σ H Q I ⟨c, F, δ, ok, post⟩ => ?_⟩
  refine wpAny_Call_Name_kw (thn (po.run pins s σ H (fun v H1 => ∃ F1 δ1 d, Ok c F1 H1 σ δ1 ∧ rep M F1 d v ∧ Post c W F1 σ (ρR c σ) (match d with | .obj n vs => (match tab n with | some f => (fa δ1).bind fun ds δ2 => outE (f none (.obj n vs :: ds)) δ2 | none => .bad) | _ => .bad) Q) I (ho c F H σ δ _ ok (Post.bind post fun d δ1 v F1 H1 _ s1 ok1 r post => ⟨F1, δ1, d, ok1, r, post⟩))) fun u s1 ⟨v, H1, I1, ru, F1, δ1, d, ok1, rd, post⟩ => ?_)
  split at post
  case h_2 => exact post.elim
  rename_i n vs
  split at post
  case h_2 => exact post.elim
  rename_i f hf
  obtain ⟨C, g, hG, cc, fr⟩ := T n f hf
  obtain ⟨a, C', dx, fs, rfl, h1, h2, h3, h4⟩ := prep_obj ok1.same (.inl rd)
  rw [hG] at h1
  cases h1
  obtain rfl : u = Value.ref a := ru
  refine inst_with hpl ?_
  have hA := pa.run pos pins s1 σ H1 _ I1 (ha c F1 H1 σ δ1 _ ok1 (Post.bind post fun ds δ2 ws F2 H2 _ s2 ok2 rs post => (⟨F2, δ2, ds, ok2, rs, s2, post⟩ : ∃ F2 δ2 ds, Ok c F2 H2 σ δ2 ∧ reps M F2 ds ws ∧ Same F1 F2 ∧ Post c W F2 σ (ρR c σ) (outE (f none (.obj n vs :: ds)) δ2) Q)))
  rw [he] at hA ⊢
  refine PySem.Calls.evalArgs_plain ?_
  refine thn hA fun us s2 ⟨ws, H2, I2, rw', F2, δ2, ds, ok2, rs, g12, post⟩ => ?_
  have rd2 := rep_mono g12 _ _ rd
  obtain ⟨a', C2, dx2, fs2, ea, k1, k2, _⟩ := prep_obj ok2.same (.inl rd2)
  cases ea
  rw [hG] at k1
  cases k1
  obtain ⟨ox, od, J, jd⟩ := ins_inst I2 k2
  rw [← hK] at cc fr
  exact ⟨⟨_, ox, od, J, jd⟩, run_inst cc fr hr tk I2 k2 rw' (own_of ok2 (reps_cons rd2 rs) post)⟩
/-- x(y=e, ..) -/
theorem d_instK {x : Str} {p pos : Pos} {kws : List Keyword} {ks : List Str} {fo : FD} {fk : FA} {k : Nat} {tab : Nat → Option Fm} (hK : X.K = M.K) (T : CallTK M X.prog X.w X.mg X.base k ks tab) (hr : Room k X.A) (tk : Takes X W) (ho : DI M W X (.Name x p) fo) (ha : DKw M W X kws fk)
    (hall : (backToKw pos (keywordEach kws X.env)).all (·.1.isSome) = true := by rfl) (hks : (backToKw pos (keywordEach kws X.env)).filterMap (·.1) = ks := by rfl) (hpl : ((backTo pos (starEach [] X.env)).any (·.1) || (backToKw pos (keywordEach kws X.env)).any (·.1.isNone)) = false := by rfl) : DE M W X (.Call (.Name x p) [] kws pos) (fMethK tab 0 ks.length fo aNil fk) := by
  obtain ⟨to, po, ho⟩ := ho
  obtain ⟨ta, pa, ha⟩ := ha
  refine de_can ⟨fun pins s σ H Q I ⟨c, F, δ, ok, post⟩ => ?_⟩
  refine wpAny_Call_Name_kw (thn (po.run pins s σ H (fun v H1 => ∃ F1 δ1 d, Ok c F1 H1 σ δ1 ∧ rep M F1 d v ∧ Post c W F1 σ (ρR c σ) (match d with | .obj n vs => (match tab n with | some f => (aNil δ1).bind fun ds δ2 => (fk δ2).bind fun es δ3 => if ds.length = 0 ∧ es.length = ks.length then outE (f none (.obj n vs :: (ds ++ es))) δ3 else .bad | none => .bad) | _ => .bad) Q) I (ho c F H σ δ _ ok (Post.bind post fun d δ1 v F1 H1 _ s1 ok1 r post => ⟨F1, δ1, d, ok1, r, post⟩))) fun u s1 ⟨v, H1, I1, ru, F1, δ1, d, ok1, rd, post⟩ => ?_)
  split at post
  case h_2 => exact post.elim
  rename_i n vs
  split at post
  case h_2 => exact post.elim
  rename_i f hf
  obtain ⟨C, g, hG, cc, fr⟩ := T n f hf
  obtain ⟨a, C', dx, fs, rfl, h1, h2, h3, h4⟩ := prep_obj ok1.same (.inl rd)
  rw [hG] at h1
  cases h1
  obtain rfl : u = Value.ref a := ru
  change Post c W F1 σ (ρR c σ) ((fk δ1).bind fun es δ3 => if ([] : List D).length = 0 ∧ es.length = ks.length then outE (f none (.obj n vs :: ([] ++ es))) δ3 else .bad) Q at post
  refine inst_with hpl (PyProof.Rows.evalArgs_kw2_nil hall ?_)
  refine thn (pa.run pos pins s1 σ H1 _ I1 (ha c F1 H1 σ δ1 _ ok1 (Post.bind post fun ds δ2 ws F2 H2 _ s2 ok2 rs post => (⟨F2, δ2, ds, ok2, rs, s2, post⟩ : ∃ F2 δ2 ds, Ok c F2 H2 σ δ2 ∧ reps M F2 ds ws ∧ Same F1 F2 ∧ Post c W F2 σ (ρR c σ) (if ([] : List D).length = 0 ∧ ds.length = ks.length then outE (f none (.obj n vs :: ([] ++ ds))) δ2 else .bad) Q)))) fun us s2 ⟨ws, H2, I2, rw', F2, δ2, ds, ok2, rs, g12, post⟩ => ?_
  have rd2 := rep_mono g12 _ _ rd
  obtain ⟨a', C2, dx2, fs2, ea, k1, k2, _⟩ := prep_obj ok2.same (.inl rd2)
  cases ea
  rw [hG] at k1
  cases k1
  obtain ⟨ox, od, J, jd⟩ := ins_inst I2 k2
  rw [← hK] at cc fr
  split at post
  · rename_i hl
    rw [hks]
    exact ⟨⟨_, ox, od, J, jd⟩, run_instK cc fr hr tk I2 k2 (by rw [reps_length rs]; exact hl.2) rw' (own_of ok2 (reps_cons rd2 rs) post)⟩
  · exact post.elim
end
theorem callO_of {K : PySem.W.Frag} {C g : Addr} (hm : Meth K C "__call__" g) {x q : Str} {pa : Arguments} {bd : List Stmt} {sc : Scope} {dv : List V} {kw : List (Str × V)} {fd : FuncData} (F : FunD K x q pa bd sc dv kw g fd) : StX.CallO K C g := by
  obtain ⟨oc, od, dV, kV, doc, pm, an, cdv, ct, osl, rfl, lk, _⟩ := F.ex
  refine ⟨hm.at_, hm.fn, ?_⟩
  unfold PySem.W.fnIn
  rw [lk]
/-! ### C.m(y=e, ..), m a classmethod -/
section
variable {X : Cx} {W : WX} {M : Gm} {pins : List (Addr × Obj)} {σ : L2.St} {H : Hp} {s : Shared} {k : Nat} {C p g : Addr} {mc : Value} {sp : Sp} {o : Expr} {m : Str} {pos apos : Pos} {ta : TE} {tkw : TA} {kws : List Keyword} {ks : List Str}
theorem run_cmK {q : Addr} {Q : VK} {ws : List Value} {zs : List V} (F : FnK X.prog X.w X.K X.mg X.base (CXX X) k g 1 ks sp) (hr : Room k X.A) (tk : Takes X W) (I : Inv X ((q, PySem.W.methodObj (.ref g) (.ref C)) :: pins) σ H s) (l2 : zs.length = ks.length) (r : Vals zs ws) (h : sp (.ref C :: zs) H Q (WE W σ)) : wpAny (model X.prog X.w) X.A (call (.ref q) [] (ks.zip ws)) (EP X pins σ Q) X.xe s := by
  refine thn (wpAny_call (PySem.W.method_call (ClX.pin_at I) (R := fun r s' => match r with | .ok (.ret v) => EP X ((q, PySem.W.methodObj (.ref g) (.ref C)) :: pins) σ Q v s' | .ok _ => False | .error e => X.xe e s') (codeAny_mono (F X.A X.stack s H [.ref C] ws [.ref C] zs Q (WE W σ) hr I.env0 rfl l2 (.cons rfl .nil) r h) fun r s' hq => ?_))) fun _ _ y => ClX.unpinE y
  cases r with
  | error e => exact passAt tk σ _ H s e s' I hq
  | ok fl =>
    cases fl with
    | ret u => exact I.after hq
    | next => exact False.elim hq
    | brk => exact False.elim hq
    | cont => exact False.elim hq
def tCMK (W : WX) (C : Addr) (n : Nat) (sp : Sp) (ta : TE) (t : TA) : TE := fun σ H Q => ta σ H fun x H1 => x = .ref C ∧ t σ H1 fun zs H2 => zs.length = n ∧ sp (.ref C :: zs) H2 Q (WE W σ)
theorem pe_cmK {pl : Sem Bool} (he : PE X o ta) (r : ClX.CRead X.K C mc) (c : ClX.CMet X.K C mc m p g) (F : FnK X.prog X.w X.K X.mg X.base (CXX X) k g 1 ks sp) (hr : Room k X.A) (tk : Takes X W) (hkw : PK X kws tkw)
    (hall : (backToKw pos (keywordEach kws X.env)).all (·.1.isSome) = true := by rfl) (hks : (backToKw pos (keywordEach kws X.env)).filterMap (·.1) = ks := by rfl)
    (hpl : ((backTo pos (starEach [] X.env)).any (·.1) || (backToKw pos (keywordEach kws X.env)).any (·.1.isNone)) = false := by rfl)
    (ht : eval (.Call (.Attribute o m apos) [] kws pos) X.env = (do
      let ov ← eval o X.env
      standAt apos.atName
      let (f, first) ← holding [ov] (getMethod ov m pl)
      callWith pos f first (backTo pos (starEach [] X.env)) (backToKw pos (keywordEach kws X.env))) := by rfl) : PE X (.Call (.Attribute o m apos) [] kws pos) (tCMK W C ks.length sp ta tkw) :=
  ⟨fun pins s σ H Q I h => PySem.W.methodCall_KW (pl := pl) (thn (he.run pins s σ H _ I h) fun u s1 ⟨x, H1, I1, rx, ex, q⟩ => by
    subst ex
    cases rx
    refine ClX.getmethcm_ok I1 r c fun s2 I2 => PySem.W.callWith_of hpl (PySem.W.keeps_M c.fi) (PyProof.Rows.evalArgs_kw2_nil hall (thn (hkw.run pos _ s2 σ H1 _ I2 q) fun ws s3 ⟨zs, H2, I3, rv, l2, q2⟩ => ⟨⟨ClX.pin_at I3, I3.kIn⟩, ?_⟩))
    rw [hks]
    exact run_cmK F hr tk I3 l2 rv q2) ht⟩
def fCMethK (n : Nat) (f : Fm) (l : Nat) (fk : FA) : FE := fun δ => (fk δ).bind fun ds δ1 => if ds.length = l then outE (f none (.cls n :: ds)) δ1 else .bad
theorem d_cmethK {e : Expr} {n l : Nat} {f : Fm} {fk : FA} (mk : ∀ {t : TA}, PK X kws t → PE X e (tCMK W C l (spD M f) (tC (.ref C)) t)) (hG : M.G n = some C) (ha : DKw M W X kws fk) : DE M W X e (fCMethK n f l fk) := by
  obtain ⟨t, p, h⟩ := ha
  refine ⟨_, mk p, fun c F H σ δ Q ok post => ⟨rfl, h c F H σ δ _ ok (Post.bind post fun ds δ1 vs F1 H1 _ s1 ok1 rs post => ?_)⟩⟩
  split at post
  · rename_i hl
    exact ⟨by rw [reps_length rs]; exact hl, own_of ok1 (reps_cons (by unfold rep; exact ⟨C, hG, rfl⟩) rs) post⟩
  · exact post.elim
end
end
end TS

set_option maxRecDepth 100000
set_option maxHeartbeats 4000000
/-! TSG: mirrors by simp. -/
namespace TS
open PySem L2
noncomputable section
section
variable {α β : Type} (δ : Sl)
@[simp] theorem Res.bind_bad (k : α → Sl → Res β) : (Res.bad : Res α).bind k = .bad := rfl
@[simp] theorem Res.bindS_bad (k : α → Sl → SR) : (Res.bad : Res α).bindS k = .bad := rfl
@[simp] theorem SR.bind_bk (k : Sl → SR) : (SR.bk δ).bind k = .bk δ := rfl
@[simp] theorem SR.bind_ct (k : Sl → SR) : (SR.ct δ).bind k = .ct δ := rfl
@[simp] theorem SR.bind_bad (k : Sl → SR) : (SR.bad).bind k = .bad := rfl
@[simp] theorem ap_kD (d : D) : kD d δ = .ok d δ := id rfl
@[simp] theorem ap_toE (f : FD) : toE f δ = (f δ).bind fun d δ => .ok (.imm d) δ := id rfl
@[simp] theorem ap_frz (f : FE) : frz f δ = (f δ).bind fun r δ => match r with | .imm d => .ok d δ | .own o => .ok o.toD δ | .brw _ => .bad := id rfl
@[simp] theorem ap_fBin (g : D → D → Option R) (fa fb : FD) : fBin g fa fb δ = (fa δ).bind fun x δ1 => (fb δ1).bind fun y δ2 => match g x y with | some z => .ok z δ2 | none => .bad := id rfl
@[simp] theorem ap_fBinV (g : D → D → Option R) (i : Nat) (fb : FD) : fBinV g i fb δ = if there δ i then (fb δ).bind fun y δ1 => (vP i δ1).bind fun x δ2 => match g x y with | some z => .ok z δ2 | none => .bad else .bad := id rfl
@[simp] theorem ap_aNil : aNil δ = .ok [] δ := id rfl
@[simp] theorem ap_aCons (f : FD) (g : FA) : aCons f g δ = (f δ).bind fun d δ1 => (g δ1).bind fun ds δ2 => .ok (d :: ds) δ2 := id rfl
@[simp] theorem ap_aOne (f : FD) : aOne f δ = (f δ).bind fun d δ1 => .ok [d] δ1 := id rfl
@[simp] theorem ap_fCal (g : List D → Option R) (fa : FA) : fCal g fa δ = (fa δ).bind fun ds δ1 => match g ds with | some z => .ok z δ1 | none => .bad := id rfl
@[simp] theorem ap_fTst (f : FE) : fTst f δ = (f δ).bind fun r δ => match r with | .imm (.bl b) => .ok b δ | _ => .bad := id rfl
@[simp] theorem ap_fNot (f : FT) : fNot f δ = (f δ).bind fun b δ => .ok (!b) δ := id rfl
@[simp] theorem ap_fAnd (f g : FT) : fAnd f g δ = (f δ).bind fun b δ => if b then g δ else .ok false δ := id rfl
@[simp] theorem ap_fOr (f g : FT) : fOr f g δ = (f δ).bind fun b δ => if b then .ok true δ else g δ := id rfl
@[simp] theorem ap_fAndV (f : FD) (g : FE) : fAndV f g δ = (f δ).bind fun d δ => match d with | .bl true => g δ | .bl false => .ok (.imm (.bl false)) δ | _ => .bad := id rfl
@[simp] theorem ap_fOrV (f : FD) (g : FE) : fOrV f g δ = (f δ).bind fun d δ => match d with | .bl true => .ok (.imm (.bl true)) δ | .bl false => g δ | _ => .bad := id rfl
@[simp] theorem ap_fNotV (f : FD) : fNotV f δ = (f δ).bind fun d δ => match d with | .bl b => .ok (.bl (!b)) δ | _ => .bad := id rfl
@[simp] theorem ap_fIfE (f : FT) (g h : FE) : fIfE f g h δ = (f δ).bind fun b δ => if b then g δ else h δ := id rfl
@[simp] theorem ap_fLst (fa : FA) : fLst fa δ = (fa δ).bind fun ds δ => if ds.length ≤ 16777216 then .ok (.own (.l ds)) δ else .bad := id rfl
@[simp] theorem ap_fTup (fa : FA) : fTup fa δ = (fa δ).bind fun ds δ => if ds.length ≤ 16777216 then .ok (.tup ds) δ else .bad := id rfl
@[simp] theorem ap_fSl (fe : FD) (fl fh : FO) : fSl fe fl fh δ = (fe δ).bind fun d δ => (fl δ).bind fun lo δ => (fh δ).bind fun hi δ => match gSl d lo hi with | some r => .ok r δ | none => .bad := id rfl
@[simp] theorem ap_oNone : oNone δ = .ok none δ := id rfl
@[simp] theorem ap_oSome (f : FD) : oSome f δ = (f δ).bind fun d δ => match d with | .int i => .ok (some i) δ | _ => .bad := id rfl
@[simp] theorem ap_fUnI (g : Int → Int) (fe : FD) : fUnI g fe δ = (fe δ).bind fun d δ => match d with | .int i => .ok (.int (g i)) δ | _ => .bad := id rfl
@[simp] theorem ap_fOwn (f : Fm) (fa : FA) : fOwn f fa δ = (fa δ).bind fun ds δ1 => outE (f none ds) δ1 := id rfl
@[simp] theorem outE_ok (r : R) (io : Option OB) : outE (.ok r io) δ = .ok r δ := rfl
@[simp] theorem ap_sSeq (f g : FS) : sSeq f g δ = (f δ).bind g := id rfl
@[simp] theorem ap_sNil : sNil δ = .nx δ := id rfl
@[simp] theorem ap_sRet (f : FE) : sRet f δ = (f δ).bindS fun r δ1 => .rt r δ1 := id rfl
@[simp] theorem ap_sExpr (f : FE) : sExpr f δ = (f δ).bindS fun _ δ1 => .nx δ1 := id rfl
@[simp] theorem ap_sIf (t : FT) (f g : FS) : sIf t f g δ = (t δ).bindS fun b δ1 => if b then f δ1 else g δ1 := id rfl
@[simp] theorem ap_sAsg (f : FE) (h : R → Sl → SR) : sAsg f h δ = (f δ).bindS h := id rfl
@[simp] theorem ap_tNameI (i : Nat) (d : D) : tName i (.imm d) δ = .nx (δ.set i (some (.imm d))) := id rfl
@[simp] theorem ap_tNameO (i : Nat) (d : OB) : tName i (.own d) δ = .nx (δ.set i (some (.own d))) := id rfl
@[simp] theorem ap_tsNil : tsNil [] δ = .nx δ := id rfl
@[simp] theorem ap_tsCons (h : R → Sl → SR) (hs : List D → Sl → SR) (d : D) (ds : List D) : tsCons h hs (d :: ds) δ = (h (.imm d) δ).bind (hs ds) := id rfl
@[simp] theorem ap_tTup (n : Nat) (hs : List D → Sl → SR) (ds : List D) : tTup n hs (.imm (.tup ds)) δ = if ds.length = n then hs ds δ else .bad := id rfl
@[simp] theorem ap_sFor (fi : FA) (tg : R → Sl → SR) (body : FS) : sFor fi tg body δ = (fi δ).bindS fun ds δ1 => forL tg body ds δ1 := id rfl
@[simp] theorem ap_itSeq (f : FD) : itSeq f δ = (f δ).bind fun d δ => match d with | .lst ds => .ok ds δ | _ => .bad := id rfl
@[simp] theorem ap_itTup (f : FD) : itTup f δ = (f δ).bind fun d δ => match d with | .tup ds => .ok ds δ | _ => .bad := id rfl
@[simp] theorem ap_itEnum (f : FD) : itEnum f δ = (f δ).bind fun d δ => match d with | .lst ds => .ok (enumD 0 ds) δ | _ => .bad := id rfl
@[simp] theorem ap_sPar (i j : Nat) (f g : FE) : sPar i j f g δ = (f δ).bindS fun r δ1 => match r with | .brw _ => .bad | r => (g δ1).bindS fun r' δ2 => match r' with | .brw _ => .bad | r' => .nx ((δ2.set i (some r)).set j (some r')) := id rfl
@[simp] theorem ap_fFld (ix : Nat → Option Nat) (fo : FD) : fFld ix fo δ = (fo δ).bind fun d δ1 => match d with | .obj n vs => (match ix n with | some j => (match vs[j]? with | some d => .ok d δ1 | none => .bad) | none => .bad) | _ => .bad := id rfl
@[simp] theorem ap_fMeth (tab : Nat → Option Fm) (fo : FD) (fa : FA) : fMeth tab fo fa δ = (fo δ).bind fun d δ1 => match d with | .obj n vs => (match tab n with | some f => (fa δ1).bind fun ds δ2 => outE (f none (.obj n vs :: ds)) δ2 | none => .bad) | _ => .bad := id rfl
@[simp] theorem ap_fIsi (tab : Tg → Option Bool) (fe : FD) : fIsi tab fe δ = (fe δ).bind fun d δ => match tagD d with | some t => (match tab t with | some b => .ok (.bl b) δ | none => .bad) | none => .bad := id rfl
@[simp] theorem ap_vI (i : Nat) : vI i δ = match δ[i]? with | some (some (.imm d)) => .ok d δ | some (some (.own o)) => .ok o.toD (δ.set i (some (.imm o.toD))) | _ => .bad := id rfl
@[simp] theorem ap_vP (i : Nat) : vP i δ = match δ[i]? with | some (some (.imm d)) => .ok d δ | some (some (.own o)) => .ok o.toD δ | some (some (.brw o)) => .ok o.toD δ | _ => .bad := id rfl
@[simp] theorem ap_vR (i : Nat) : vR i δ = match δ[i]? with | some (some (.imm d)) => .ok (.imm d) δ | some (some (.own o)) => .ok (.own o) (δ.set i none) | _ => .bad := id rfl
@[simp] theorem ap_there (i : Nat) : there δ i = match δ[i]? with | some (some _) => true | _ => false := id rfl
@[simp] theorem ap_tSub (x : Nat) (fi : FD) (d : D) : tSub x fi (.imm d) δ = match δ[x]? with | some (some r0) => if r0.mu then (fi δ).bindS fun i δ1 => match δ1[x]? with | some (some (.own o)) => (match setOB o i d with | some o' => .nx (δ1.set x (some (.own o'))) | none => .bad) | some (some (.brw o)) => (match setOB o i d with | some o' => .nx (δ1.set x (some (.brw o'))) | none => .bad) | _ => .bad else .bad | _ => .bad := id rfl
end
@[simp] theorem ap_tLstI (n : Nat) (hs : List D → Sl → SR) (ds : List D) (δ : Sl) : tLst n hs (.imm (.lst ds)) δ = if ds.length = n then hs ds δ else .bad := id rfl
@[simp] theorem ap_tLstO (n : Nat) (hs : List D → Sl → SR) (ds : List D) (δ : Sl) : tLst n hs (.own (.l ds)) δ = if ds.length = n then hs ds δ else .bad := id rfl
@[simp] theorem ap_fMethK (tab : Nat → Option Fm) (n l : Nat) (fo : FD) (fa fk : FA) (δ : Sl) : fMethK tab n l fo fa fk δ = (fo δ).bind fun d δ1 => match d with
  | .obj c vs => (match tab c with
    | some f => (fa δ1).bind fun ds δ2 => (fk δ2).bind fun es δ3 => if ds.length = n ∧ es.length = l then outE (f none (.obj c vs :: (ds ++ es))) δ3 else .bad
    | none => .bad)
  | _ => .bad := id rfl
@[simp] theorem ap_fBinO (tab : Nat → Option Fm) (fa fb : FD) (δ : Sl) : fBinO tab fa fb δ = (fa δ).bind fun x δ1 => (fb δ1).bind fun y δ2 => match x, y with
  | .obj n vs, .obj m ws => if n = m then (match tab n with
    | some f => outO (f none [.obj n vs, .obj m ws]) δ2
    | none => .bad) else .bad
  | _, _ => .bad := id rfl
@[simp] theorem outO_own (o : OB) (io : Option OB) (δ : Sl) : outO (.ok (.own o) io) δ = .ok (.own o) δ := rfl
@[simp] theorem ap_sPar3 (i j l : Nat) (fa : FA) (δ : Sl) : sPar3 i j l fa δ = (fa δ).bindS fun ds δ1 => match ds with | [a, b, c] => .nx (((δ1.set i (some (.imm a))).set j (some (.imm b))).set l (some (.imm c))) | _ => .bad := id rfl
@[simp] theorem ap_fOwnP (f : Fm) (fa : FA) (δ : Sl) : fOwnP f fa δ = (fa δ).bind fun ds δ1 => outP (f none ds) δ1 := id rfl
@[simp] theorem outP_ok (r : R) (io : Option OB) (δ : Sl) : outP (.ok r io) δ = if flatR r then .ok r δ else .bad := rfl
@[simp] theorem flat_bl (b : Bool) : flatR (.imm (.bl b)) = true := rfl
@[simp] theorem flat_int (b : Int) : flatR (.imm (.int b)) = true := rfl
@[simp] theorem flat_non : flatR (.imm .non) = true := rfl
@[simp] theorem flat_str (x : Str) : flatR (.imm (.str x)) = true := rfl
@[simp] theorem mu_own (o : OB) : (R.own o).mu = true := rfl
@[simp] theorem mu_brw (o : OB) : (R.brw o).mu = true := rfl
@[simp] theorem mu_imm (d : D) : (R.imm d).mu = false := rfl
@[simp] theorem toD_l (xs : List D) : (OB.l xs).toD = .lst xs := rfl
@[simp] theorem toD_o (n : Nat) (xs : List D) : (OB.o n xs).toD = .obj n xs := rfl
@[simp] theorem gAdd_i (i j : Int) : gAdd (.int i) (.int j) = some (.imm (.int (i + j))) := rfl
@[simp] theorem gSub_i (i j : Int) : gSub (.int i) (.int j) = some (.imm (.int (i - j))) := rfl
@[simp] theorem gLt_i (i j : Int) : gLt (.int i) (.int j) = some (.imm (.bl (decide (i < j)))) := rfl
@[simp] theorem gLe_i (i j : Int) : gLe (.int i) (.int j) = some (.imm (.bl (decide (i ≤ j)))) := rfl
@[simp] theorem gGt_i (i j : Int) : gGt (.int i) (.int j) = some (.imm (.bl (decide (j < i)))) := rfl
@[simp] theorem gGe_i (i j : Int) : gGe (.int i) (.int j) = some (.imm (.bl (decide (j ≤ i)))) := rfl
theorem eqvI (i j : Int) : PyData.eqv (.int i) (.int j) = decide (i = j) := by
  by_cases h : i = j
  · subst h; simp [PyData.eqv]
  · simp [PyData.eqv, h]
theorem shapedI (i : Int) : SeqAt.shaped (.int i) = true := by
  first | rfl | (unfold SeqAt.shaped; simp [PyData.canLay0, PyData.depth])
@[simp] theorem gEq_i (i j : Int) : gEq (.int i) (.int j) = some (.imm (.bl (decide (i = j)))) := by
  simp [gEq, toP, eqvI, shapedI]
@[simp] theorem gNe_i (i j : Int) : gNe (.int i) (.int j) = some (.imm (.bl (!decide (i = j)))) := by
  simp [gNe, toP, eqvI, shapedI]
theorem gMod_i {i j : Int} (h : 0 < j) : gMod (.int i) (.int j) = some (.imm (.int (i % j))) := by
  simp [gI, CModB, h]
theorem log2_lt {n k : Nat} (h : n < 2 ^ k) (hk : 0 < k) : n.log2 < k := by
  by_cases h0 : n = 0
  · subst h0; simpa using hk
  · exact (Nat.log2_lt h0).mpr h
theorem gFdiv_i {i j : Int} (h : 0 < j) (h2 : j.natAbs < 2 ^ 255) : gFdiv (.int i) (.int j) = some (.imm (.int (i / j))) := by
  have := log2_lt h2 (by decide)
  have e : CDivB i j = true := gd_true ⟨h, by omega⟩
  simp [gFdiv, gOr, gI, e]
theorem gFdiv_n {i j : Int} (h : j < 0) (h2 : j.natAbs < 2 ^ 255) : gFdiv (.int i) (.int j) = some (.imm (.int (i.fdiv j))) := by
  have := log2_lt h2 (by decide)
  have e : CDivNB i j = true := gd_true ⟨h, by omega⟩
  have e2 : CDivB i j = false := by
    cases q : CDivB i j with
    | false => rfl
    | true => have := (of_gd (p := (0 < j ∧ j.natAbs.log2 < 9000)) q).1; omega
  simp [gFdiv, gOr, gI, e, e2]
theorem gMul_i {i j : Int} (h : i.natAbs < 2 ^ 255) (h2 : j.natAbs < 2 ^ 255) : gMul (.int i) (.int j) = some (.imm (.int (i * j))) := by
  have h1 := log2_lt h (by decide)
  have h3 := log2_lt h2 (by decide)
  have e : CMulB i j = true := gd_true (by omega)
  simp [gMul, gOr, gI, e]
theorem gPow_i {i j : Int} (h : 0 ≤ j) (h2 : j ≤ 1000000) (h3 : i.natAbs < 18446744073709551616) : gPow (.int i) (.int j) = some (.imm (.int (i ^ j.toNat))) := by
  have e : CPowB i j = true := gd_true ⟨h, h2, h3⟩
  simp [gI, e]
@[simp] theorem gInt_i (i : Int) : gInt [.int i] = some (.imm (.int i)) := rfl
@[simp] theorem gAbs_i (i : Int) : gAbs [.int i] = some (.imm (.int (if i < 0 then -i else i))) := rfl
@[simp] theorem gLen_l (xs : List D) : gLen [.lst xs] = some (.imm (.int xs.length)) := rfl
@[simp] theorem gLen_s (xs : List D) : gLen [.scr xs] = some (.imm (.int xs.length)) := rfl
theorem gDivmod_i {i j : Int} (h : 0 < j) (h2 : j.natAbs < 2 ^ 255) : gDivmod [.int i, .int j] = some (.imm (.tup [.int (i / j), .int (i % j)])) := by
  have := log2_lt h2 (by decide)
  have e : decide (0 < j ∧ j.natAbs.log2 < 9000) = true := decide_eq_true ⟨h, by omega⟩
  simp only [gDivmod, e, if_true]
@[simp] theorem gIx_l (xs : List D) (i : Int) : gIx (.lst xs) (.int i) = (atI xs i).map .imm := rfl
theorem atI_nat (xs : List D) (n : Nat) : atI xs (n : Int) = xs[n]? := by
  unfold atI ixN
  by_cases h : n < xs.length
  · simp [h]
  · simp [h]
/-! the end of a law -/
section
open PySem.Spec PyProof.Rows
variable {P : Program} {w : World} {K : PySem.W.Frag} {mg mb : Str → Option Value} {CX : CXT} {k : Nat} {fa a : Addr} {fd : FuncData} {x : Str} {sp : Sp} {s1 : Shared} {vs : List Value} {ns : List Int}
/-- the law's own call at a heap in which the script alone may be tracked -/
theorem law_core (KX : K.In s1.heap) (hns : s1.heap.Ns mainGlobals mg) (hb : s1.heap.Ns builtinsNs mb) (hbb : ∀ y : Str, y ≠ "__name__" → mb y = bootBuiltins y) (hlim : s1.heap.NoLimit) (hg : s1.gens = #[])
    (ha : s1.heap.get? a = some { cls := .type "list", data := .seq vs.toArray }) (hr : Room k callerA) (F : ∀ base : Heap, K.In base → base.Ns mainGlobals mg → FnOk P w K mg base CX k fa fd [x] sp)
    (hbind : ∀ (s : Shared) (u : Value), BindsTo s fd ⟨[u], []⟩ [(x, u)]) (hCX : ∀ H e s', CX [] H s1 (fun _ _ _ => False) e s' → False)
    {H : Hp} (hO : Only H) (hsp : sp [.ref a] H (fun v _ => v = .bl true) fun _ _ _ => False) (hok : HOk P w H s1.heap) (hA : ∀ b, H b ≠ none → b = a) (hK : H a ≠ none → K.lookup a = none) :
    codeAny (model P w) callerA (.call (.ref fa) ⟨[.ref a], []⟩) (fun r s' => r = .ok (.ret (.bool true)) ∧ OldK s1.heap s'.heap ∧ s'.os = s1.os ∧ AllBare s'.gens) s1 := by
  have dictN : ∀ {b : Addr} {o : Obj} {es : Array DictEntry} {ep : Nat}, s1.heap.get? b = some o → o.data = .dict es ep → H b = none := by
    intro b o es ep e d
    rcases Option.eq_none_or_eq_some (H b) with q | ⟨u, q⟩
    · exact q
    · obtain rfl : b = a := hA b (by rw [q]; exact fun z => by cases z)
      rw [ha] at e
      cases e
      cases (show Data.seq vs.toArray _ = Data.dict es ep from d)
  have nsH : ∀ {b : Addr} {m : Str → Option Value}, s1.heap.Ns b m → (hidT s1.heap H).Ns b m := by
    rintro b m ⟨o, es, ep, e, d, r⟩
    exact ⟨o, es, ep, hidT_get e (dictN e d), d, r⟩
  have kinH : K.In (hidT s1.heap H) := by
    intro b o e
    refine hidT_get (KX b o e) ?_
    rcases Option.eq_none_or_eq_some (H b) with q | ⟨u, q⟩
    · exact q
    · obtain rfl : b = a := hA b (by rw [q]; exact fun z => by cases z)
      have := hK (by rw [q]; exact fun z => by cases z)
      rw [this] at e
      cases e
  obtain ⟨mc, c1, c2⟩ := hlim
  have hmod : Mod K mg (hidT s1.heap H) := ⟨kinH, nsH hns, ⟨mb, nsH hb, hbb⟩, ⟨mc, nsH c1, c2⟩⟩
  have env : Env0 P w K mg (hidT s1.heap H) callerA [] s1 H := ⟨rfl, hmod, fun _ _ e => of_hidT e, Nat.le_of_eq (hidT_size _ _), trivial, fun b z => absurd z (List.not_mem_nil (a := b)), hok, .of_eq hg⟩
  have run := (F _ kinH (nsH hns)).run callerA [] s1 H ⟨[.ref a], []⟩ [.ref a] [.ref a] _ _ hr env (hbind s1 (.ref a)) (.cons rfl .nil) hsp
  refine codeAny_mono run ?_
  rintro (e | fl) s' z
  · exact (hCX H e s' z).elim
  · cases fl with
    | next => exact z.elim
    | brk => exact z.elim
    | cont => exact z.elim
    | ret u =>
      obtain ⟨v, H2, hos, hbare, un, hok2, rv, ev⟩ := z
      have ev : v = .bl true := ev
      rw [ev] at rv
      cases (show u = Value.bool true from rv)
      refine ⟨rfl, OldK.of_keep fun b o e => ?_, hos, hbare⟩
      rcases Option.eq_none_or_eq_some (H b) with q | ⟨u, q⟩
      · exact un.keep b o e q (fun z => absurd z (List.not_mem_nil (a := b))) (fun z => by simp at z)
      · rcases hO b with z | ⟨ob, xs, z⟩
        · rw [q] at z; cases z
        · have t1 := (hok b _ z).1
          have t2 := (hok2 b _ (un.frzs b ob _ z)).1
          rw [e] at t1
          cases t1
          exact t2
theorem law_run (KX : K.In s1.heap) (hns : s1.heap.Ns mainGlobals mg) (hb : s1.heap.Ns builtinsNs mb) (hbb : ∀ y : Str, y ≠ "__name__" → mb y = bootBuiltins y) (hlim : s1.heap.NoLimit) (hg : s1.gens = #[])
    (ha : s1.heap.get? a = some { cls := .type "list", data := .seq vs.toArray }) (hi : IntsAre vs ns) (hl : ns.length ≤ sizeLine) (hr : Room k callerA) (F : ∀ base : Heap, K.In base → base.Ns mainGlobals mg → FnOk P w K mg base CX k fa fd [x] sp)
    (hbind : ∀ (s : Shared) (u : Value), BindsTo s fd ⟨[u], []⟩ [(x, u)]) (hsp : ∀ H : Hp, Only H → SqL K H a (ns.map V.int) → sp [.ref a] H (fun v _ => v = .bl true) fun _ _ _ => False) (hCX : ∀ H e s', CX [] H s1 (fun _ _ _ => False) e s' → False) :
    codeAny (model P w) callerA (.call (.ref fa) ⟨[.ref a], []⟩) (fun r s' => r = .ok (.ret (.bool true)) ∧ OldK s1.heap s'.heap ∧ s'.os = s1.os ∧ AllBare s'.gens) s1 := by
  have rv := vals_ints hi
  have lv := hi.length
  rcases Option.eq_none_or_eq_some (K.lookup a) with hk | ⟨o, hk⟩
  · let ho : HO := .frz { cls := .type "list", data := .seq vs.toArray } (.lst (ns.map V.int))
    let H : Hp := fun b => if b = a then some ho else none
    have hH : H a = some ho := if_pos rfl
    have hn : ∀ b, b ≠ a → H b = none := fun b z => if_neg z
    have only : Only H := fun b => by
      by_cases z : b = a
      · exact .inr ⟨_, _, z ▸ hH⟩
      · exact .inl (hn b z)
    refine law_core KX hns hb hbb hlim hg ha hr F hbind hCX only (hsp H only (.inl (.inr ⟨_, hH⟩))) ?_ (fun b z => Classical.byContradiction fun y => z (hn b y)) fun _ => hk
    intro b u z
    by_cases y : b = a
    · subst y
      rw [hH] at z
      cases z
      exact ⟨ha, by rw [List.length_map]; exact hl, vs, _, rv, ha⟩
    · rw [hn b y] at z
      cases z
  · have e := KX a o hk
    rw [ha] at e
    cases e
    have only : Only (fun _ => none : Hp) := fun _ => .inl rfl
    have sq : SqL K (fun _ => none : Hp) a (ns.map V.int) := .inr ⟨_, vs.toArray, _, hk, rfl, rfl, rfl, by rw [List.size_toArray, lv]; exact hl, by simpa using rv⟩
    exact law_core KX hns hb hbb hlim hg ha hr F hbind hCX only (hsp _ only sq) (fun b u z => by cases z) (fun b z => absurd rfl z) fun z => absurd rfl z
end
theorem walk_ofW {l : PySem.W.OpenLaw} {n k : Nat} {q : Program} {loose : List Str} {XP : (Str → Option Value) → Heap → Prop} {YP : World → Heap → Prop} {d : DefRec} {CX : World → CXT} {x : Str}
    (hn : l.most = some n) (hn2 : n ≤ sizeLine) (hdf : d.params.defaults = []) (hr : Room k callerA)
    (F : ∀ (w : World) (mg : Str → Option Value) (fa : Addr) (h : Heap), YP w h → h.Ns mainGlobals mg → mg d.name = some (.ref fa) →
      ∃ (K : PySem.W.Frag) (fd : FuncData) (sp : Sp), K.In h ∧ (∀ (s : Shared) (u : Value), BindsTo s fd ⟨[u], []⟩ [(x, u)]) ∧
        (∀ (H : Hp) (a : Addr) (ns : List Int), ns.length ≤ n → Only H → SqL K H a (ns.map V.int) → sp [.ref a] H (fun v _ => v = .bl true) fun _ _ _ => False) ∧
        ∀ base : Heap, K.In base → base.Ns mainGlobals mg → FnOk l.prog w K mg base (CX w) k fa fd [x] sp)
    (hCX : ∀ (w : World) (H : Hp) (s : Shared) (e : Value) (s' : Shared), CX w [] H s (fun _ _ _ => False) e s' → False) :
    PySem.W.WalkO q loose XP YP l.row.toRowW d [] (fun f vs => PySem.call f vs) := by
  refine Att.attach_call hn hdf fun w s₀ s₁ mg mb fa o pm cd doc a vs ns G Y ho hd hcd hmg hobj hints hlen hg => ?_
  obtain ⟨K, fd, sp, KX, hb, hsp, hF⟩ := F w mg fa _ Y G.T.g hmg
  exact law_run KX G.T.g G.T.b G.T.builtins G.T.nolimit hg hobj hints (Nat.le_trans hlen hn2) hr hF hb (fun H hO hS => hsp H a ns hlen hO hS) fun H e s' => hCX w H s₁ e s'
theorem noCX {P : Program} {w : World} {H : Hp} {s : Shared} {e : Value} {s' : Shared} (h : L2.CX P w [] H s (fun _ _ _ => False) e s') : False := by
  obtain ⟨_, _, _, _, _, _, _, _, _, _, _, _, z⟩ := h
  exact z
end
end TS

set_option maxRecDepth 100000
set_option maxHeartbeats 4000000
/-! TSv: the head and the end of a law whose defs make lambdas. -/
namespace TS
open PySem L2
noncomputable section
/-! ### the law's call -/
section
open PySem.Spec PyProof.Rows
variable {P : Program} {w : World} {K : PySem.W.Frag} {mg mb : Str → Option Value} {CX : CXT} {k : Nat} {fa a : Addr} {cs : List (Addr × Addr)} {fd : FuncData} {x : Str} {sp : Sp} {s1 : Shared} {vs : List Value} {ns : List Int}
theorem law_coreT (KX : K.In s1.heap) (hns : s1.heap.Ns mainGlobals mg) (hb : s1.heap.Ns builtinsNs mb) (hbb : ∀ y : Str, y ≠ "__name__" → mb y = bootBuiltins y) (hlim : s1.heap.NoLimit) (hg : s1.gens = #[])
    (hT : ∀ p ∈ cs, s1.heap.get? p.2 = some (PySem.W.tabObj #[])) (nT : ∀ p ∈ cs, K.lookup p.2 = none) (C : ∀ p ∈ cs, PySem.W.CodeHd s1.heap p.1 p.2)
    (hbm : ∃ (bm : Addr) (ob : Obj), mg "__builtins__" = some (.ref bm) ∧ bm ≠ builtinsNs ∧ s1.heap.get? bm = some ob ∧ ob.cls = .type "module" ∧ ob.dict = some builtinsNs ∧ ob.data = .plain)
    (ha : s1.heap.get? a = some { cls := .type "list", data := .seq vs.toArray }) (hr : Room k callerA) (F : ∀ base : Heap, K.In base → base.Ns mainGlobals mg → (∀ p ∈ cs, LamX.TabB base mg p.1 p.2) → FnOk P w K mg base CX k fa fd [x] sp)
    (hbind : ∀ (s : Shared) (u : Value), BindsTo s fd ⟨[u], []⟩ [(x, u)]) (hCX : ∀ H e s', CX [] H s1 (fun _ _ _ => False) e s' → False)
    {H : Hp} (hH : ∀ p ∈ cs, H p.2 = some (.tbl #[])) (hO : ∀ b, H b = none ∨ (∃ p ∈ cs, p.2 = b) ∨ ∃ o xs, H b = some (.frz o (.lst xs))) (hsp : sp [.ref a] H (fun v _ => v = .bl true) fun _ _ _ => False) (hok : HOk P w H s1.heap) (hA : ∀ b, H b ≠ none → b = a ∨ ∃ p ∈ cs, p.2 = b) (hK : H a ≠ none → K.lookup a = none) :
    codeAny (model P w) callerA (.call (.ref fa) ⟨[.ref a], []⟩) (fun r s' => r = .ok (.ret (.bool true)) ∧ OldK s1.heap s'.heap ∧ s'.os = s1.os ∧ AllBare s'.gens) s1 := by
  -- neither the script nor a table
  have off : ∀ {b : Addr} {o : Obj}, s1.heap.get? b = some o → (∀ us n, o.data ≠ .seq us n) → o.data ≠ .fields #[] → H b = none := by
    intro b o e d1 d2
    rcases Option.eq_none_or_eq_some (H b) with q | ⟨u, q⟩
    · exact q
    · rcases hA b (by rw [q]; exact fun z => nomatch z) with z | ⟨p, hp, z⟩
      · subst z; rw [ha] at e; cases e; exact (d1 _ _ rfl).elim
      · subst z; rw [hT p hp] at e; cases e; exact (d2 rfl).elim
  have dictN : ∀ {b : Addr} {o : Obj} {es : Array DictEntry} {ep : Nat}, s1.heap.get? b = some o → o.data = .dict es ep → H b = none := fun e d => off e (fun us n z => by rw [d] at z; cases z) (fun z => by rw [d] at z; cases z)
  have nsH : ∀ {b : Addr} {m : Str → Option Value}, s1.heap.Ns b m → (hidT s1.heap H).Ns b m := by
    rintro b m ⟨o, es, ep, e, d, r⟩
    exact ⟨o, es, ep, hidT_get e (dictN e d), d, r⟩
  have kinH : K.In (hidT s1.heap H) := by
    intro b o e
    refine hidT_get (KX b o e) ?_
    rcases Option.eq_none_or_eq_some (H b) with q | ⟨u, q⟩
    · exact q
    · rcases hA b (by rw [q]; exact fun z => nomatch z) with z | ⟨p, hp, z⟩
      · subst z
        rw [hK (by rw [q]; exact fun z => nomatch z)] at e
        cases e
      · subst z; rw [nT p hp] at e; cases e
  obtain ⟨mc, c1, c2⟩ := hlim
  have hmod : Mod K mg (hidT s1.heap H) := ⟨kinH, nsH hns, ⟨mb, nsH hb, hbb⟩, ⟨mc, nsH c1, c2⟩⟩
  have tabs : ∀ p ∈ cs, LamX.TabB (hidT s1.heap H) mg p.1 p.2 := by
    intro p hp
    obtain ⟨o, us, fl, tf, fg, tg, iF, tx, tt, e1, r1, r2, r3, rr⟩ := C p hp
    obtain ⟨bm, ob, b1, b2, b3, b4, b5, b6⟩ := hbm
    have hTp := hT p hp
    refine ⟨⟨o, us, fl, tf, fg, tg, iF, tx, tt, hidT_get e1 (off e1 (fun vs n z => ?_) fun z => ?_), r1, r2, r3, rr⟩, ⟨bm, ob, b1, b2, fun z => ?_, fun z => ?_, hidT_get b3 (off b3 (fun vs n z => ?_) fun z => ?_), b4, b5, b6⟩, fun z => ?_⟩
    · rw [r2] at z; cases z
    · rw [r2] at z; cases z; simp at r3
    · obtain ⟨o2, es, ep, e, hd, _⟩ := hns
      rw [z, e] at b3; cases b3
      rw [hd] at b6; cases b6
    · rw [z, hTp] at b3; cases b3; cases b6
    · rw [b6] at z; cases z
    · rw [b6] at z; cases z
    · obtain ⟨o2, es, ep, e, hd, _⟩ := hns
      rw [z, hTp] at e; cases e; cases hd
  have env : Env0 P w K mg (hidT s1.heap H) callerA [] s1 H := ⟨rfl, hmod, fun _ _ e => of_hidT e, Nat.le_of_eq (hidT_size _ _), trivial, fun b z => absurd z (List.not_mem_nil (a := b)), hok, .of_eq hg⟩
  have run := (F _ kinH (nsH hns) tabs).run callerA [] s1 H ⟨[.ref a], []⟩ [.ref a] [.ref a] _ _ hr env (hbind s1 (.ref a)) (.cons rfl .nil) hsp
  refine codeAny_mono run ?_
  rintro (e | fl) s' z
  · exact (hCX H e s' z).elim
  · cases fl with
    | next => exact z.elim
    | brk => exact z.elim
    | cont => exact z.elim
    | ret u =>
      obtain ⟨v, H2, hos, hbare, un, hok2, rv, ev⟩ := z
      have ev : v = .bl true := ev
      rw [ev] at rv
      cases (show u = Value.bool true from rv)
      have more : ∀ p ∈ cs, ∃ ps : Array Value, s'.heap.get? p.2 = some (PySem.W.tabObj ps) := fun p hp => by
        obtain ⟨ps, q⟩ := un.tbls p.2 #[] (hH p hp)
        exact ⟨_, hok2 p.2 _ q⟩
      have same : ∀ b o, (¬ ∃ p ∈ cs, p.2 = b) → s1.heap.get? b = some o → s'.heap.get? b = some o := fun b o nb e => by
        rcases Option.eq_none_or_eq_some (H b) with q | ⟨u, q⟩
        · exact un.keep b o e q (fun z => absurd z (List.not_mem_nil (a := b))) (fun z => by simp at z)
        · rcases hO b with z | z | ⟨ob, xs, z⟩
          · rw [q] at z; cases z
          · exact absurd z nb
          · have t1 := (hok b _ z).1
            have t2 := (hok2 b _ (un.frzs b ob _ z)).1
            rw [e] at t1
            cases t1
            exact t2
      refine ⟨rfl, ⟨fun b o e => ?_, fun b o e => ?_⟩, hos, hbare⟩
      · by_cases hb : ∃ p ∈ cs, p.2 = b
        · obtain ⟨p, hp, z⟩ := hb
          subst z
          obtain ⟨ps, q⟩ := more p hp
          rw [hT p hp] at e
          cases e
          exact .inr (.inl ⟨((C p hp).tab (hT p hp)).isCodeTable, rfl, #[], ps, rfl, by rw [Array.empty_append]; exact q⟩)
        · exact .inl (same b o hb e)
      · by_cases hb : ∃ p ∈ cs, p.2 = b
        · obtain ⟨p, hp, z⟩ := hb
          subst z
          obtain ⟨ps, q⟩ := more p hp
          exact ⟨_, q⟩
        · exact ⟨o, same b o hb e⟩
open Classical in
theorem law_runT (KX : K.In s1.heap) (hns : s1.heap.Ns mainGlobals mg) (hb : s1.heap.Ns builtinsNs mb) (hbb : ∀ y : Str, y ≠ "__name__" → mb y = bootBuiltins y) (hlim : s1.heap.NoLimit) (hg : s1.gens = #[])
    (hT : ∀ p ∈ cs, s1.heap.get? p.2 = some (PySem.W.tabObj #[])) (nT : ∀ p ∈ cs, K.lookup p.2 = none) (C : ∀ p ∈ cs, PySem.W.CodeHd s1.heap p.1 p.2)
    (hbm : ∃ (bm : Addr) (ob : Obj), mg "__builtins__" = some (.ref bm) ∧ bm ≠ builtinsNs ∧ s1.heap.get? bm = some ob ∧ ob.cls = .type "module" ∧ ob.dict = some builtinsNs ∧ ob.data = .plain)
    (ha : s1.heap.get? a = some { cls := .type "list", data := .seq vs.toArray }) (hi : IntsAre vs ns) (hl : ns.length ≤ sizeLine) (hr : Room k callerA) (F : ∀ base : Heap, K.In base → base.Ns mainGlobals mg → (∀ p ∈ cs, LamX.TabB base mg p.1 p.2) → FnOk P w K mg base CX k fa fd [x] sp)
    (hbind : ∀ (s : Shared) (u : Value), BindsTo s fd ⟨[u], []⟩ [(x, u)])
    (hsp : ∀ H : Hp, (∀ p ∈ cs, H p.2 = some (.tbl #[])) → SqL K H a (ns.map V.int) → sp [.ref a] H (fun v _ => v = .bl true) fun _ _ _ => False) (hCX : ∀ H e s', CX [] H s1 (fun _ _ _ => False) e s' → False) :
    codeAny (model P w) callerA (.call (.ref fa) ⟨[.ref a], []⟩) (fun r s' => r = .ok (.ret (.bool true)) ∧ OldK s1.heap s'.heap ∧ s'.os = s1.os ∧ AllBare s'.gens) s1 := by
  have rv := vals_ints hi
  have lv := hi.length
  have nTa : ¬ ∃ p ∈ cs, p.2 = a := by
    rintro ⟨p, hp, z⟩
    have q := hT p hp
    rw [z, ha] at q
    cases (show Data.seq vs.toArray _ = Data.fields #[] from congrArg Obj.data (Option.some.inj q))
  let base : Hp := fun b => if ∃ p ∈ cs, p.2 = b then some (.tbl #[]) else none
  have bT : ∀ p ∈ cs, base p.2 = some (.tbl #[]) := fun p hp => if_pos ⟨p, hp, rfl⟩
  have bN : ∀ b, (¬ ∃ p ∈ cs, p.2 = b) → base b = none := fun b h => if_neg h
  have bO : ∀ b u, base b = some u → (∃ p ∈ cs, p.2 = b) ∧ u = .tbl #[] := fun b u e => by
    by_cases h : ∃ p ∈ cs, p.2 = b
    · rw [show base b = some (.tbl #[]) from if_pos h] at e
      exact ⟨h, (Option.some.inj e).symm⟩
    · rw [bN b h] at e; cases e
  have bok : ∀ b u, base b = some u → ObjOk P w base s1.heap b u := fun b u e => by
    obtain ⟨⟨p, hp, z⟩, rfl⟩ := bO b u e
    subst z
    exact hT p hp
  rcases Option.eq_none_or_eq_some (K.lookup a) with hk | ⟨o, hk⟩
  · let ho : HO := .frz { cls := .type "list", data := .seq vs.toArray } (.lst (ns.map V.int))
    have hH : (upd base a ho) a = some ho := upd_same
    have hn : ∀ b, b ≠ a → (upd base a ho) b = base b := fun b z => upd_ne z
    have hp2 : ∀ p ∈ cs, p.2 ≠ a := fun p hp z => nTa ⟨p, hp, z⟩
    refine law_coreT KX hns hb hbb hlim hg hT nT C hbm ha hr F hbind hCX (H := upd base a ho) (fun p hp => by rw [hn _ (hp2 p hp)]; exact bT p hp) (fun b => ?_) (hsp _ (fun p hp => by rw [hn _ (hp2 p hp)]; exact bT p hp) (.inl (.inr ⟨_, hH⟩))) ?_ (fun b z => ?_) fun _ => hk
    · by_cases z : b = a
      · exact .inr (.inr ⟨_, _, by rw [z]; exact hH⟩)
      · by_cases y : ∃ p ∈ cs, p.2 = b
        · exact .inr (.inl y)
        · exact .inl (by rw [hn b z]; exact bN b y)
    · intro b u z
      by_cases y : b = a
      · subst y
        rw [hH] at z
        cases z
        exact ⟨ha, by rw [List.length_map]; exact hl, vs, _, rv, ha⟩
      · rw [hn b y] at z
        obtain ⟨⟨p, hp, q⟩, rfl⟩ := bO b u z
        subst q
        exact hT p hp
    · by_cases y : b = a
      · exact .inl y
      · rw [hn b y] at z
        refine .inr (Classical.byContradiction fun q => z (bN b q))
  · have e := KX a o hk
    rw [ha] at e
    cases e
    have sq : SqL K base a (ns.map V.int) := .inr ⟨_, vs.toArray, _, hk, rfl, rfl, rfl, by rw [List.size_toArray, lv]; exact hl, by simpa using rv⟩
    refine law_coreT KX hns hb hbb hlim hg hT nT C hbm ha hr F hbind hCX (H := base) bT (fun b => ?_) (hsp _ bT sq) bok (fun b z => .inr (Classical.byContradiction fun q => z (bN b q))) fun z => absurd (bN a nTa) z
    by_cases y : ∃ p ∈ cs, p.2 = b
    · exact .inr (.inl y)
    · exact .inl (bN b y)
end
theorem walk_ofT {l : PySem.W.OpenLaw} {n k : Nat} {q : Program} {loose : List Str} {XP : (Str → Option Value) → Heap → Prop} {YP : World → Heap → Prop} {d : DefRec} {CX : World → CXT} {x : Str}
    (hn : l.most = some n) (hn2 : n ≤ sizeLine) (hdf : d.params.defaults = []) (hr : Room k callerA)
    (F : ∀ (w : World) (mg : Str → Option Value) (fa : Addr) (h : Heap), YP w h → h.Ns mainGlobals mg → mg d.name = some (.ref fa) →
      ∃ (K : PySem.W.Frag) (cs : List (Addr × Addr)) (fd : FuncData) (sp : Sp), K.In h ∧ (∀ p ∈ cs, h.get? p.2 = some (PySem.W.tabObj #[])) ∧ (∀ p ∈ cs, K.lookup p.2 = none) ∧ (∀ p ∈ cs, PySem.W.CodeHd h p.1 p.2) ∧ (∀ (s : Shared) (u : Value), BindsTo s fd ⟨[u], []⟩ [(x, u)]) ∧
        (∀ (H : Hp) (a : Addr) (ns : List Int), ns.length ≤ n → (∀ p ∈ cs, H p.2 = some (.tbl #[])) → SqL K H a (ns.map V.int) → sp [.ref a] H (fun v _ => v = .bl true) fun _ _ _ => False) ∧
        ∀ base : Heap, K.In base → base.Ns mainGlobals mg → (∀ p ∈ cs, LamX.TabB base mg p.1 p.2) → FnOk l.prog w K mg base (CX w) k fa fd [x] sp)
    (hCX : ∀ (w : World) (H : Hp) (s : Shared) (e : Value) (s' : Shared), CX w [] H s (fun _ _ _ => False) e s' → False) :
    PySem.W.WalkO q loose XP YP l.row.toRowW d [] (fun f vs => PySem.call f vs) := by
  refine Att.attach_call hn hdf fun w s₀ s₁ mg mb fa o pm cd doc a vs ns G Y ho hd hcd hmg hobj hints hlen hg => ?_
  obtain ⟨K, cs, fd, sp, KX, hT, nT, C, hb, hsp, hF⟩ := F w mg fa _ Y G.T.g hmg
  exact law_runT KX G.T.g G.T.b G.T.builtins G.T.nolimit hg hT nT C G.T.bmain hobj hints (Nat.le_trans hlen hn2) hr hF hb (fun H hH hS => hsp H a ns hlen hH hS) fun H e s' => hCX w H s₁ e s'
/-- the first frozen part at the law's entry: all but the tables -/
theorem entry {M : Gm} {H : Hp} {a : Addr} {ns : List Int} (hS : SqL M.K H a (ns.map V.int)) (hT : ∀ p ∈ M.T, H p.1 = some (.tbl #[])) : ∃ F, Same F H ∧ Tb M F H ∧ reps M F [.scr (ns.map D.int)] [.ref a] := by
  let F : Hp := fun b => match H b with
    | some (.tbl _) => none
    | x => x
  have hF : ∀ b o, F b = some o → H b = some o ∧ ∀ ps, o ≠ .tbl ps := fun b o e => by
    have e : (match H b with | some (.tbl _) => none | x => x) = some o := e
    split at e
    · cases e
    · rename_i q
      exact ⟨e, fun ps z => by subst z; exact q ps e⟩
  have hN : ∀ b o, H b = some o → (∀ ps, o ≠ .tbl ps) → F b = some o := fun b o e n => by
    show (match H b with | some (.tbl _) => none | x => x) = some o
    rw [e]
    cases o <;> first | rfl | exact absurd rfl (n _)
  refine ⟨F, fun b o e => (hF b o e).1, ⟨fun p hp => LamX.TabS.nil (hT p hp), fun p hp => ?_, fun b ps e => (hF b _ e).2 ps rfl⟩, reps_cons ?_ reps_nil⟩
  · show (match H p.1 with | some (.tbl _) => none | x => x) = none
    rw [hT p hp]
  · unfold rep
    refine ⟨a, _, rfl, ?_, reps_ints ns⟩
    rcases hS with (h | ⟨o, h⟩) | h
    · exact .inl (.inl (hN _ _ h fun ps z => nomatch z))
    · exact .inl (.inr ⟨o, hN _ _ h fun ps z => nomatch z⟩)
    · exact .inr h
end
end TS

set_option maxRecDepth 100000
set_option maxHeartbeats 4000000
/-! TSH: lists of iL. -/
namespace TS
open PySem L2
noncomputable section
def iL (xs : List Int) : List D := xs.map D.int
@[simp] theorem iL_len (xs : List Int) : (iL xs).length = xs.length := by simp [iL]
@[simp] theorem iL_nil : iL [] = [] := rfl
theorem iL_cons (x : Int) (xs : List Int) : iL (x :: xs) = .int x :: iL xs := rfl
theorem iL_app (xs ys : List Int) : iL (xs ++ ys) = iL xs ++ iL ys := by simp [iL]
theorem toPs_ints : ∀ xs : List Int, toPs (iL xs) = some (xs.map PyData.int)
  | [] => by simp [toPs]
  | x :: xs => by
    have := toPs_ints xs
    simp only [iL, List.map_cons] at this ⊢
    simp [toPs, toP, this]
theorem canLay_ints : ∀ xs : List Int, PyData.canLayAll0 (xs.map PyData.int) = true
  | [] => by simp [PyData.canLayAll0]
  | x :: xs => by simp [PyData.canLayAll0, PyData.canLay0, canLay_ints xs]
theorem depth_ints : ∀ xs : List Int, PyData.depthAll (xs.map PyData.int) ≤ 1
  | [] => by simp [PyData.depthAll]
  | x :: xs => by
    have := depth_ints xs
    simp only [List.map_cons, PyData.depthAll, PyData.depth]
    omega
theorem shaped_l (xs : List Int) : SeqAt.shaped (.list (xs.map PyData.int)) = true := by
  have := depth_ints xs
  unfold SeqAt.shaped
  rw [Bool.and_eq_true]
  refine ⟨by simp only [PyData.canLay0]; exact canLay_ints xs, decide_eq_true ?_⟩
  simp only [PyData.depth]
  omega
theorem eqvAll_ints : ∀ xs ys : List Int, PyData.eqvAll (xs.map PyData.int) (ys.map PyData.int) = decide (xs = ys)
  | [], [] => by simp [PyData.eqvAll]
  | [], y :: ys => by simp [PyData.eqvAll]
  | x :: xs, [] => by simp [PyData.eqvAll]
  | x :: xs, y :: ys => by
    simp only [List.map_cons, PyData.eqvAll, eqvAll_ints xs ys, eqvI]
    by_cases h : x = y
    · by_cases h2 : xs = ys <;> simp [h, h2]
    · simp [h]
theorem toP_l (xs : List Int) : toP (.lst (iL xs)) = some (.list (xs.map PyData.int)) := by
  unfold toP; rw [toPs_ints]; rfl
@[simp] theorem gEq_l (xs ys : List Int) : gEq (.lst (iL xs)) (.lst (iL ys)) = some (.imm (.bl (decide (xs = ys)))) := by
  simp only [gEq, toP_l, shaped_l, Bool.and_self, if_true, PyData.eqv, eqvAll_ints]
@[simp] theorem gNe_l (xs ys : List Int) : gNe (.lst (iL xs)) (.lst (iL ys)) = some (.imm (.bl (!decide (xs = ys)))) := by
  simp only [gNe, toP_l, shaped_l, Bool.and_self, if_true, PyData.eqv, eqvAll_ints]
theorem intsD_ints : ∀ xs : List Int, intsD (iL xs) = some xs
  | [] => rfl
  | x :: xs => by
    have := intsD_ints xs
    simp only [iL, List.map_cons] at this ⊢
    simp [intsD, this]
theorem gMax_l {xs : List Int} (h : 0 < xs.length) : gMax [.lst (iL xs)] = some (.imm (.int (maxL xs))) := by
  have e : gMax2 [.lst (iL xs)] = none := rfl
  simp only [gMax, gcOr, e, gMaxL, intsD_ints]
  simp [h]
theorem gMin_l {xs : List Int} (h : 0 < xs.length) : gMin [.lst (iL xs)] = some (.imm (.int (minL xs))) := by
  have e : gMin2 [.lst (iL xs)] = none := rfl
  simp only [gMin, gcOr, e, gMinL, intsD_ints]
  simp [h]
@[simp] theorem gMax_2 (i j : Int) : gMax [.int i, .int j] = some (.imm (.int (if j > i then j else i))) := rfl
@[simp] theorem gMin_2 (i j : Int) : gMin [.int i, .int j] = some (.imm (.int (if j < i then j else i))) := rfl
theorem atI_ints (xs : List Int) (i : Int) : atI (iL xs) i = (atI xs i).map D.int := by
  unfold atI
  simp only [iL, List.length_map]
  cases ixN xs.length i with
  | none => rfl
  | some j => simp
theorem atI_in {α : Type} {xs : List α} {n : Nat} (h : n < xs.length) : atI xs (n : Int) = some xs[n] := by
  unfold atI ixN
  simp [h]
theorem gIx_ints {xs : List Int} {n : Nat} (h : n < xs.length) : gIx (.lst (iL xs)) (.int (n : Int)) = some (.imm (.int xs[n])) := by
  rw [gIx_l, atI_ints, atI_in h]; rfl
theorem gCat_ints (xs ys : List Int) (h : xs.length + ys.length ≤ 16777216) : gAdd (.lst (iL xs)) (.lst (iL ys)) = some (.own (.l (iL (xs ++ ys)))) := by
  have e : gI (fun _ _ => true) (fun i j => i + j) (.lst (iL xs)) (.lst (iL ys)) = none := rfl
  simp only [gAdd, gOr, e, gCat, iL_len, h, if_true, iL_app]
theorem flatten_ints (k : Nat) (xs : List Int) : (List.replicate k (iL xs)).flatten = iL (List.replicate k xs).flatten := by
  induction k with
  | zero => rfl
  | succ k ih => rw [List.replicate_succ, List.replicate_succ, List.flatten_cons, List.flatten_cons, ih, iL, iL, iL, List.map_append]
theorem gRep_ints {xs : List Int} {k : Int} (h0 : 0 ≤ k) (h1 : k < 9223372036854775808) (h2 : xs.length * k.toNat ≤ 16777216) : gMul (.lst (iL xs)) (.int k) = some (.own (.l (iL (List.replicate k.toNat xs).flatten))) := by
  have e : gI CMulB (fun i j => i * j) (.lst (iL xs)) (.int k) = none := rfl
  have e2 : gd (0 ≤ k ∧ k < 9223372036854775808 ∧ (iL xs).length * k.toNat ≤ 16777216) = true := gd_true ⟨h0, h1, by simpa [iL] using h2⟩
  simp only [gMul, gOr, e, gRep, e2, if_true, flatten_ints]
theorem gRep_nat {xs : List Int} {k : Nat} (h1 : k ≤ 16777216) (h2 : xs.length * k ≤ 16777216) : gMul (.lst (iL xs)) (.int (k : Int)) = some (.own (.l (iL (List.replicate k xs).flatten))) := by
  have e := gRep_ints (xs := xs) (k := (k : Int)) (by omega) (by omega) (by simpa using h2)
  rw [Int.toNat_natCast] at e
  exact e
/-- xs[:n] -/
theorem cut_to (xs : List Int) (n : Nat) : cutD (iL xs) none (some (n : Int)) = iL (xs.take n) := by
  unfold cutD
  rw [HT.sIx_none, HT.sIx_nat, List.drop_zero, Nat.sub_zero, iL, iL, List.length_map, ← List.map_take]
  congr 1
  by_cases h : n ≤ xs.length
  · rw [Nat.min_eq_left h]
  · rw [Nat.min_eq_right (by omega), List.take_of_length_le (Nat.le_refl _), List.take_of_length_le (by omega)]
theorem rgD_ints (n : Nat) : rgD 0 (n : Int) = iL ((List.range n).map fun i : Nat => (i : Int)) := by
  simp [rgD, iL]
section
variable (δ : Sl)
@[simp] theorem ap_fOwnIo (f : Fm) (i : Nat) (fa : FA) : fOwnIo f i fa δ = match δ[i]? with
  | some (some r0) => if r0.mu then (fa δ).bind fun ds δ1 => match δ1[i]? with
      | some (some (.own o)) => (match f (some o) ds with
        | .ok r (some o') => .ok r (δ1.set i (some (.own o')))
        | .exc x (some o') => .exc x (δ1.set i (some (.own o')))
        | _ => .bad)
      | some (some (.brw o)) => (match f (some o) ds with
        | .ok r (some o') => .ok r (δ1.set i (some (.brw o')))
        | .exc x (some o') => .exc x (δ1.set i (some (.brw o')))
        | _ => .bad)
      | _ => .bad
    else .bad
  | _ => .bad := id rfl
@[simp] theorem ap_fMut (i : Nat) (m : List D → List D → Option (D × List D)) (fa : FA) : fMut i m fa δ = match getL δ i with
  | none => .bad
  | some _ => (fa δ).bind fun as δ1 => match getL δ1 i with
    | none => .bad
    | some ds => match m ds as with
      | none => .bad
      | some (z, ds') => .ok z (match δ1[i]? with
        | some (some (.own _)) => δ1.set i (some (.own (.l ds')))
        | _ => δ1.set i (some (.brw (.l ds')))) := id rfl
@[simp] theorem ap_getL (i : Nat) : getL δ i = match δ[i]? with | some (some (.own (.l ds))) => some ds | some (some (.brw (.l ds))) => some ds | _ => none := id rfl
end
theorem erase_map {α β : Type} (f : α → β) : ∀ (l : List α) (n : Nat), (l.map f).eraseIdx n = (l.eraseIdx n).map f
  | [], n => by simp
  | a :: l, 0 => by simp
  | a :: l, n + 1 => by simp [erase_map f l n]
theorem erase_perm {α : Type} : ∀ (l : List α) (n : Nat) (h : n < l.length), (l[n] :: l.eraseIdx n).Perm l
  | a :: l, 0, h => by simp
  | a :: l, n + 1, h => by
    simp only [List.getElem_cons_succ, List.eraseIdx_cons_succ]
    exact (List.Perm.swap _ _ _).trans ((erase_perm l n (by simpa using h)).cons a)
theorem mAppend_int {xs : List Int} (h : xs.length < 16777216) (d : Int) : mAppend (iL xs) [.int d] = some (.non, iL (xs ++ [d])) := by
  simp only [mAppend, iL_len, h, if_true, iL_app]; rfl
theorem rgOk_nat {k : Nat} (h : k ≤ 16777216) : rgOkB 0 (k : Int) = true := by
  unfold rgOkB
  refine gd_true ?_
  refine ⟨?_, ?_, ?_, ?_, ?_⟩ <;> omega
theorem rg1_nat {k : Nat} (h : k ≤ 16777216) : gd (-4611686018427387904 ≤ (k : Int) ∧ (k : Int) < 4611686018427387904) = true := by
  refine gd_true ?_
  refine ⟨?_, ?_⟩ <;> omega
theorem rg2_nat {i k : Nat} (h0 : i ≤ 16777216) (h : k ≤ 16777216) : gd (-4611686018427387904 ≤ (i : Int) ∧ (i : Int) < 4611686018427387904 ∧ -4611686018427387904 ≤ (k : Int) ∧ (k : Int) < 4611686018427387904) = true := by
  refine gd_true ?_
  refine ⟨?_, ?_, ?_, ?_⟩ <;> omega
def nats (i k : Nat) : List Int := (List.range' i k).map fun z : Nat => (z : Int)
theorem rgD_nats (k : Nat) : rgD 0 (k : Int) = iL (nats 0 k) := by simp [rgD, iL, nats, List.range_eq_range']
theorem nats_len (i k : Nat) : (nats i k).length = k := by simp [nats]
theorem nats_succ (i k : Nat) : iL (nats i (k + 1)) = .int (i : Int) :: iL (nats (i + 1) k) := by simp [nats, iL, List.range'_succ]
theorem fLRg1_ok {f : FD} {δ : Sl} {k : Nat} (h : k ≤ 16777216) (e : f δ = .ok (.int (k : Int)) δ) : fLRg1 f δ = .ok (.own (.l (iL (nats 0 k)))) δ := by
  unfold fLRg1
  rw [e, Res.bind_ok]
  show (if rgOkB 0 (k : Int) = true then Res.ok (R.own (.l (rgD 0 (k : Int)))) δ else .bad) = _
  rw [if_pos (rgOk_nat h), rgD_nats]
theorem itRg1_ok {f : FD} {δ : Sl} {k : Nat} (h : k ≤ 16777216) (e : f δ = .ok (.int (k : Int)) δ) : itRg1 f δ = .ok (iL (nats 0 k)) δ := by
  unfold itRg1
  rw [e, Res.bind_ok]
  show (if gd (-4611686018427387904 ≤ (k : Int) ∧ (k : Int) < 4611686018427387904) = true then Res.ok (rgD 0 (k : Int)) δ else .bad) = _
  rw [if_pos (rg1_nat h), rgD_nats]
end
end TS

set_option maxRecDepth 100000
set_option maxHeartbeats 2000000
/-! TSI: tables, periods (plain). -/
namespace TS
/-- the offset of the place x -/
def act (t : List Int) (x : Int) : Int := t.getD (x % (t.length : Int)).toNat 0
def PerF (f : Int → Int) (p : Int) : Prop := ∀ x, f (x + p) = f x
theorem PerF.neg {f : Int → Int} {p : Int} (h : PerF f p) : PerF f (-p) := fun x => by
  have := h (x + -p)
  rw [← this]; congr 1; omega
theorem PerF.add {f : Int → Int} {p q : Int} (h : PerF f p) (h' : PerF f q) : PerF f (p + q) := fun x => by
  rw [← Int.add_assoc, h' (x + p), h x]
theorem PerF.zero {f : Int → Int} : PerF f 0 := fun x => by rw [Int.add_zero]
theorem PerF.mulN {f : Int → Int} {p : Int} (h : PerF f p) : ∀ n : Nat, PerF f (n * p)
  | 0 => by simpa using PerF.zero
  | n + 1 => by
    have := (PerF.mulN h n).add h
    have e : ((n + 1 : Nat) : Int) * p = n * p + p := by push_cast; rw [Int.add_mul, Int.one_mul]
    rw [e]; exact this
theorem PerF.mul {f : Int → Int} {p : Int} (h : PerF f p) (k : Int) : PerF f (k * p) := by
  rcases Int.le_total 0 k with hk | hk
  · obtain ⟨n, rfl⟩ := Int.eq_ofNat_of_zero_le hk
    exact h.mulN n
  · obtain ⟨n, e⟩ := Int.eq_ofNat_of_zero_le (show 0 ≤ -k by omega)
    have := (h.mulN n).neg
    have e2 : -((n : Int) * p) = k * p := by
      have : k = -(n : Int) := by omega
      rw [this, Int.neg_mul]
    rw [← e2]; exact this
theorem PerF.gcd {f : Int → Int} (p q : Nat) : PerF f p → PerF f q → PerF f (Nat.gcd p q : Nat) := by
  refine Nat.gcd.induction (P := fun p q => PerF f (p : Int) → PerF f (q : Int) → PerF f ((Nat.gcd p q : Nat) : Int)) p q (fun n _ h => ?_) fun m n hm ih h1 h2 => ?_
  · rw [Nat.gcd_zero_left]; exact h
  · rw [Nat.gcd_rec]
    refine ih ?_ h1
    have e : ((n % m : Nat) : Int) = n + (-((n / m : Nat) : Int)) * m := by
      have := Nat.div_add_mod n m
      have h3 : (n : Int) = (m : Int) * ((n / m : Nat) : Int) + ((n % m : Nat) : Int) := by exact_mod_cast this.symm
      rw [Int.neg_mul, Int.mul_comm]; omega
    rw [e]
    exact h2.add (h1.mul _)
theorem act_per (t : List Int) : PerF (act t) t.length := fun x => by
  unfold act
  rw [Int.add_emod_right]
end TS

set_option maxRecDepth 100000
set_option maxHeartbeats 2000000
/-! TSJ: the least period of a table (plain). -/
namespace TS
theorem rep_get (s : List Int) : ∀ (k i : Nat), i < k * s.length → (List.replicate k s).flatten.getD i 0 = s.getD (i % s.length) 0
  | 0, i, h => by simp at h
  | k + 1, i, h => by
    rw [List.replicate_succ, List.flatten_cons, List.getD_eq_getElem?_getD]
    by_cases hi : i < s.length
    · rw [List.getElem?_append_left hi, Nat.mod_eq_of_lt hi, List.getD_eq_getElem?_getD]
    · have hs : i - s.length < k * s.length := by rw [Nat.succ_mul] at h; omega
      rw [List.getElem?_append_right (by omega), ← List.getD_eq_getElem?_getD, rep_get s k _ hs, Nat.mod_eq_sub_mod (by omega : s.length ≤ i)]
def repOf (p : Nat) (t : List Int) : List Int := (List.replicate (t.length / p) (t.take p)).flatten
def isPer (t : List Int) (p : Nat) : Bool := decide (t.length % p = 0) && decide (repOf p t = t)
theorem repOf_length {p : Nat} {t : List Int} (hp : 0 < p) (hd : p ∣ t.length) (h0 : 0 < t.length) : (repOf p t).length = t.length := by
  have hle : p ≤ t.length := Nat.le_of_dvd h0 hd
  unfold repOf
  have e : ∀ k : Nat, ((List.replicate k (t.take p)).flatten).length = k * p := fun k => by
    induction k with
    | zero => simp
    | succ k ih => rw [List.replicate_succ, List.flatten_cons, List.length_append, ih, List.length_take, Nat.min_eq_left hle, Nat.succ_mul, Nat.add_comm]
  rw [e]
  exact Nat.div_mul_cancel hd
theorem getD_ext {a b : List Int} (hl : a.length = b.length) (h : ∀ i, i < b.length → a.getD i 0 = b.getD i 0) : a = b := by
  apply List.ext_getElem hl
  intro i h1 h2
  have := h i h2
  rw [List.getD_eq_getElem?_getD, List.getD_eq_getElem?_getD, List.getElem?_eq_getElem h1, List.getElem?_eq_getElem h2] at this
  exact this
theorem act_nat {t : List Int} {i : Nat} (h : i < t.length) : act t i = t.getD i 0 := by
  unfold act
  rw [Int.emod_eq_of_lt (by omega) (by omega)]
  rfl
theorem act_mod (t : List Int) (x : Int) : act t (x % t.length) = act t x := by
  unfold act
  rw [Int.emod_emod_of_dvd _ (Int.dvd_refl _)]
theorem per_mod {f : Int → Int} {p : Int} (h : PerF f p) (x : Int) : f (x % p) = f x := by
  have := h.mul (-(x / p)) x
  rw [← this]
  congr 1
  have := Int.emod_add_mul_ediv x p
  rw [Int.neg_mul, Int.mul_comm]; omega
theorem isPer_iff {t : List Int} {p : Nat} (hp : 0 < p) (h0 : 0 < t.length) (hd : p ∣ t.length) : repOf p t = t ↔ PerF (act t) p := by
  have hle : p ≤ t.length := Nat.le_of_dvd h0 hd
  have key : ∀ i, i < t.length → (repOf p t).getD i 0 = t.getD (i % p) 0 := fun i hi => by
    have hl : (t.take p).length = p := by rw [List.length_take, Nat.min_eq_left hle]
    unfold repOf
    rw [rep_get (t.take p) (t.length / p) i (by rw [hl, Nat.div_mul_cancel hd]; exact hi), hl, List.getD_eq_getElem?_getD, List.getElem?_take_of_lt (Nat.mod_lt _ hp), List.getD_eq_getElem?_getD]
  have hb : ∀ x : Int, 0 ≤ x % (t.length : Int) ∧ x % (t.length : Int) < t.length := fun x => ⟨Int.emod_nonneg _ (by omega), Int.emod_lt_of_pos _ (by omega)⟩
  constructor
  · intro e x
    have step : ∀ y : Int, act t y = act t (y % (p : Int)) := fun y => by
      obtain ⟨b1, b2⟩ := hb y
      obtain ⟨i, ei⟩ := Int.eq_ofNat_of_zero_le b1
      have hi : i < t.length := by omega
      have q := key i hi
      rw [e] at q
      have hm : i % p < t.length := Nat.lt_of_lt_of_le (Nat.mod_lt _ hp) hle
      rw [← act_mod t y, ei, act_nat hi, q, ← act_nat hm]
      have : y % (p : Int) = ((i % p : Nat) : Int) := by
        rw [← Int.emod_emod_of_dvd y (Int.natCast_dvd_natCast.mpr hd), ei]; rfl
      rw [this]
    rw [step (x + p), Int.add_emod_right, ← step x]
  · intro h
    refine getD_ext (repOf_length hp hd h0) fun i hi => ?_
    rw [key i hi]
    have hm : i % p < t.length := Nat.lt_of_lt_of_le (Nat.mod_lt _ hp) hle
    rw [← act_nat hi, ← act_nat hm, ← per_mod h i]
    rfl
end TS

set_option maxRecDepth 100000
set_option maxHeartbeats 2000000
/-! TSK: the least table (plain). -/
namespace TS
def leastP (t : List Int) : Nat := ((List.range' 1 (t.length - 1)).find? (isPer t)).getD t.length
def least (t : List Int) : List Int := t.take (leastP t)
structure IsMin (f : Int → Int) (p : Nat) : Prop where
  pos : 0 < p
  per : PerF f p
  min : ∀ q : Nat, 0 < q → PerF f q → p ≤ q
theorem IsMin.uniq {f : Int → Int} {p q : Nat} (h : IsMin f p) (h' : IsMin f q) : p = q := Nat.le_antisymm (h.min q h'.pos h'.per) (h'.min p h.pos h.per)
theorem isPer_spec {t : List Int} {p : Nat} (hp : 0 < p) (h0 : 0 < t.length) : isPer t p = true ↔ p ∣ t.length ∧ PerF (act t) p := by
  unfold isPer
  rw [Bool.and_eq_true, decide_eq_true_eq, decide_eq_true_eq, ← Nat.dvd_iff_mod_eq_zero]
  exact ⟨fun h => ⟨h.1, (isPer_iff hp h0 h.1).mp h.2⟩, fun h => ⟨h.1, (isPer_iff hp h0 h.1).mpr h.2⟩⟩
theorem leastP_dvd {t : List Int} (h0 : 0 < t.length) : leastP t ∣ t.length ∧ 0 < leastP t ∧ PerF (act t) (leastP t) := by
  unfold leastP
  cases e : (List.range' 1 (t.length - 1)).find? (isPer t) with
  | none => exact ⟨Nat.dvd_refl _, h0, act_per t⟩
  | some p =>
    have h1 := List.find?_some e
    have h2 := List.mem_of_find?_eq_some e
    rw [List.mem_range'_1] at h2
    obtain ⟨k1, k2⟩ := (isPer_spec (by omega) h0).mp h1
    exact ⟨k1, by simp; omega, k2⟩
theorem leastP_le {t : List Int} (h0 : 0 < t.length) {p : Nat} (hp : 0 < p) (hd : p ∣ t.length) (h : PerF (act t) p) : leastP t ≤ p := by
  have hle := Nat.le_of_dvd h0 hd
  by_cases hn : p = t.length
  · subst hn
    exact Nat.le_of_dvd h0 (leastP_dvd h0).1
  · unfold leastP
    cases e : (List.range' 1 (t.length - 1)).find? (isPer t) with
    | none =>
      have := List.find?_eq_none.mp e p (by rw [List.mem_range'_1]; omega)
      exact absurd ((isPer_spec hp h0).mpr ⟨hd, h⟩) this
    | some q =>
      obtain ⟨as, bs, e1, e2⟩ := (List.find?_eq_some_iff_append.mp e).2
      show q ≤ p
      rcases Nat.lt_or_ge p q with hlt | hge
      · exfalso
        have hm : p ∈ as := by
          have hq : p ∈ List.range' 1 (t.length - 1) := by rw [List.mem_range'_1]; omega
          rw [e1] at hq
          have hs : (List.range' 1 (t.length - 1)).Pairwise (· < ·) := List.pairwise_lt_range'
          rw [e1] at hs
          rcases List.mem_append.mp hq with z | z
          · exact z
          · rcases List.mem_cons.mp z with z | z
            · omega
            · have := (List.pairwise_cons.mp (List.pairwise_append.mp hs).2.1).1 p z
              omega
        have := e2 p hm
        have k := (isPer_spec hp h0).mpr ⟨hd, h⟩
        simp [k] at this
      · exact hge
theorem leastP_min {t : List Int} (h0 : 0 < t.length) : IsMin (act t) (leastP t) := by
  obtain ⟨h1, h2, h3⟩ := leastP_dvd h0
  refine ⟨h2, h3, fun q hq hper => ?_⟩
  have hg := PerF.gcd q t.length hper (act_per t)
  have hgp : 0 < Nat.gcd q t.length := Nat.gcd_pos_of_pos_left _ hq
  exact Nat.le_trans (leastP_le h0 hgp (Nat.gcd_dvd_right _ _) hg) (Nat.le_of_dvd hq (Nat.gcd_dvd_left _ _))
theorem least_length {t : List Int} (h0 : 0 < t.length) : (least t).length = leastP t := by
  unfold least
  rw [List.length_take, Nat.min_eq_left (Nat.le_of_dvd h0 (leastP_dvd h0).1)]
theorem least_act {t : List Int} (h0 : 0 < t.length) : act (least t) = act t := by
  funext x
  obtain ⟨h1, h2, h3⟩ := leastP_dvd h0
  have hle := Nat.le_of_dvd h0 h1
  rw [← per_mod h3 x]
  have b1 := Int.emod_nonneg x (show (leastP t : Int) ≠ 0 by omega)
  have b2 := Int.emod_lt_of_pos x (show 0 < (leastP t : Int) by omega)
  obtain ⟨i, ei⟩ := Int.eq_ofNat_of_zero_le b1
  have hi : i < leastP t := by omega
  rw [← act_mod (least t) x, least_length h0, ei]
  rw [act_nat (by rw [least_length h0]; exact hi), act_nat (by omega)]
  unfold least
  rw [List.getD_eq_getElem?_getD, List.getElem?_take_of_lt hi, List.getD_eq_getElem?_getD]
/-- the least table hangs on the action alone -/
theorem least_eq {s t : List Int} (hs : 0 < s.length) (ht : 0 < t.length) (h : act s = act t) : least s = least t := by
  have m1 := leastP_min hs
  have m2 := leastP_min ht
  rw [h] at m1
  have e := m1.uniq m2
  refine getD_ext (by rw [least_length hs, least_length ht, e]) fun i hi => ?_
  rw [← act_nat hi, ← act_nat (by rw [least_length hs, e, ← least_length ht]; exact hi), least_act hs, least_act ht, h]
theorem least_pos {t : List Int} (h0 : 0 < t.length) : 0 < (least t).length := by rw [least_length h0]; exact (leastP_dvd h0).2.1
theorem least_least {t : List Int} (h0 : 0 < t.length) : least (least t) = least t := least_eq (least_pos h0) h0 (least_act h0)
theorem least_le {t : List Int} (h0 : 0 < t.length) : (least t).length ≤ t.length := by rw [least_length h0]; exact Nat.le_of_dvd h0 (leastP_dvd h0).1
end TS

set_option maxRecDepth 100000
set_option maxHeartbeats 2000000
/-! TSL: more mirrors by simp; comprehensions and loops by a lemma. -/
namespace TS
open PySem L2
noncomputable section
section
variable (δ : Sl)
@[simp] theorem ap_fMake (n : Nat) (f : Fm) (fa : FA) : fMake n f fa δ = (fa δ).bind fun ds δ1 => match f (some (.o n [])) ds with
  | .ok (.imm .non) (some (.o n' vs)) => if n' = n then .ok (.own (.o n vs)) δ1 else .bad
  | .exc x _ => .exc x δ1
  | _ => .bad := id rfl
@[simp] theorem ap_fMakeL (n i : Nat) (f : Fm) (fa : FA) : fMakeL n i f fa δ = match δ[i]? with
  | some (some (.imm (.cls n'))) => if n' = n then fMake n f fa δ else .bad
  | _ => .bad := id rfl
@[simp] theorem ap_fCMeth (n : Nat) (f : Fm) (fa : FA) : fCMeth n f fa δ = (fa δ).bind fun ds δ1 => outE (f none (.cls n :: ds)) δ1 := id rfl
@[simp] theorem ap_sFldS (i : Nat) (ix : Nat → Option Nat) (fe : FD) : sFldS i ix fe δ = (fe δ).bindS fun d δ1 => match δ1[i]? with
  | some (some (.own (.o n vs))) => (match ix n with
    | some j => (match setF vs j d with
      | some vs' => .nx (δ1.set i (some (.own (.o n vs'))))
      | none => .bad)
    | none => .bad)
  | some (some (.brw (.o n vs))) => (match ix n with
    | some j => (match setF vs j d with
      | some vs' => .nx (δ1.set i (some (.brw (.o n vs'))))
      | none => .bad)
    | none => .bad)
  | _ => .bad := id rfl
@[simp] theorem ap_fOwnT (f : Fm) (fe : FE) : fOwnT f fe δ = (fe δ).bind fun r δ1 => match r with
  | .own o => outE (f (some o) []) δ1
  | _ => .bad := id rfl
@[simp] theorem ap_fProp (tab : Nat → Option Fm) (fo : FD) : fProp tab fo δ = (fo δ).bind fun d δ1 => match d with
  | .obj n vs => (match tab n with
    | some f => (match f none [.obj n vs] with
      | .ok (.imm d) _ => .ok d δ1
      | _ => .bad)
    | none => .bad)
  | _ => .bad := id rfl
@[simp] theorem ap_fOwnK0 (f : Fm) (m : Nat) (fk : FA) : fOwnK0 f m fk δ = (fk δ).bind fun es δ2 => if es.length = m then outE (f none es) δ2 else .bad := id rfl
@[simp] theorem ap_fOwnK (f : Fm) (n m : Nat) (fa fk : FA) : fOwnK f n m fa fk δ = (fa δ).bind fun ds δ1 => (fk δ1).bind fun es δ2 => if ds.length = n ∧ es.length = m then outE (f none (ds ++ es)) δ2 else .bad := id rfl
@[simp] theorem ap_tTrue : tTrue δ = .ok true δ := id rfl
@[simp] theorem ap_sNev : sNev δ = .bad := id rfl
@[simp] theorem ap_fSlV (i : Nat) (fl fh : FO) : fSlV i fl fh δ = if there δ i then (fl δ).bind fun lo δ => (fh δ).bind fun hi δ => (vP i δ).bind fun d δ => match gSl d lo hi with | some r => .ok r δ | none => .bad else .bad := id rfl
end
theorem pow_7 : gPow (.int 10) (.int 7) = some (.imm (.int 10000000)) := by rw [gPow_i (by decide) (by decide) (by decide)]; rfl
theorem pow_14 : gPow (.int 10) (.int 14) = some (.imm (.int 100000000000000)) := by rw [gPow_i (by decide) (by decide) (by decide)]; rfl
theorem pow_18 : gPow (.int 10) (.int 18) = some (.imm (.int 1000000000000000000)) := by rw [gPow_i (by decide) (by decide) (by decide)]; rfl
theorem pow_20 : gPow (.int 10) (.int 20) = some (.imm (.int 100000000000000000000)) := by rw [gPow_i (by decide) (by decide) (by decide)]; rfl
theorem pow_21 : gPow (.int 10) (.int 21) = some (.imm (.int 1000000000000000000000)) := by rw [gPow_i (by decide) (by decide) (by decide)]; rfl
theorem pow_42 : gPow (.int 10) (.int 42) = some (.imm (.int 1000000000000000000000000000000000000000000)) := by rw [gPow_i (by decide) (by decide) (by decide)]; rfl
theorem pow_9 : gPow (.int 10) (.int 9) = some (.imm (.int 1000000000)) := by rw [gPow_i (by decide) (by decide) (by decide)]; rfl
theorem pow_10 : gPow (.int 10) (.int 10) = some (.imm (.int 10000000000)) := by rw [gPow_i (by decide) (by decide) (by decide)]; rfl
theorem pow_12 : gPow (.int 10) (.int 12) = some (.imm (.int 1000000000000)) := by rw [gPow_i (by decide) (by decide) (by decide)]; rfl
theorem pow_19 : gPow (.int 10) (.int 19) = some (.imm (.int 10000000000000000000)) := by rw [gPow_i (by decide) (by decide) (by decide)]; rfl
theorem pow_23 : gPow (.int 10) (.int 23) = some (.imm (.int 100000000000000000000000)) := by rw [gPow_i (by decide) (by decide) (by decide)]; rfl
theorem pow_40 : gPow (.int 10) (.int 40) = some (.imm (.int 10000000000000000000000000000000000000000)) := by rw [gPow_i (by decide) (by decide) (by decide)]; rfl
theorem set_get {α : Type} (l : List α) (i : Nat) (a : α) (h : l[i]? = some a) : l.set i a = l := by
  apply List.ext_getElem?
  intro j
  rw [List.getElem?_set]
  split
  · rename_i e; subst e; split
    · exact h.symm
    · rename_i z; rw [List.getElem?_eq_none (by omega)]
  · rfl
/-- [e for x in xs], a body that leaves the slots as they are -/
theorem lc_map {α : Type} {inj : α → D} (out : α → D) {i : Nat} {fi : FA} {fe : FD} {δ δ1 : Sl} {xs : List α} (h1 : fi δ = .ok (xs.map inj) δ1) (hfree : freeS δ1 i = true) (hlen : xs.length ≤ 16777216)
    (he : ∀ x ∈ xs, fe (δ1.set i (some (.imm (inj x)))) = .ok (out x) (δ1.set i (some (.imm (inj x))))) : fLc (stName i) [i] fi tTrue fe δ = .ok (.own (.l (xs.map out))) δ1 := by
  have key : ∀ (ys : List α) (acc : List D), (∀ y ∈ ys, y ∈ xs) → acc.length + ys.length ≤ 16777216 → lcL (stName i) [i] tTrue fe (ys.map inj) acc (δ1.set i none) = .ok (acc ++ ys.map out) (δ1.set i none) := by
    intro ys
    induction ys with
    | nil => intro acc _ _; simp [lcL]
    | cons y ys ih =>
      intro acc hm hl
      have e := he y (hm y (by simp))
      simp only [List.map_cons, lcL, stName, List.set_set, ap_tTrue, noX, Res.bind_ok, if_true, e]
      rw [if_pos (by simp at hl; omega)]
      show lcL (stName i) [i] tTrue fe (ys.map inj) (acc ++ [out y]) ((δ1.set i (some (.imm (inj y)))).set i none) = _
      rw [List.set_set, ih (acc ++ [out y]) (fun z hz => hm z (by simp [hz])) (by simp at hl ⊢; omega)]
      simp
  obtain ⟨o, ho⟩ : ∃ o, δ1[i]? = some o := by
    unfold freeS at hfree
    cases q : δ1[i]? with
    | none => rw [q] at hfree; cases hfree
    | some o => exact ⟨o, rfl⟩
  unfold fLc
  rw [h1, Res.bind_ok]
  simp only [List.all_cons, List.all_nil, Bool.and_true, hfree, if_true]
  show ((lcL (stName i) [i] tTrue fe (xs.map inj) [] (δ1.set i none)).bind fun acc δ2 => Res.ok (R.own (.l acc)) (restD δ1 [i] δ2)) = _
  rw [key xs [] (fun _ h => h) (by simpa using hlen), Res.bind_ok]
  simp only [List.nil_append, restD, ho, Option.join, List.set_set]
  rw [set_get _ _ _ (by rw [ho]; rfl)]
theorem lc_ints {i : Nat} {fi : FA} {fe : FD} {δ δ1 : Sl} {xs : List Int} (f : Int → Int) (h1 : fi δ = .ok (iL xs) δ1) (hfree : freeS δ1 i = true) (hlen : xs.length ≤ 16777216)
    (he : ∀ x ∈ xs, fe (δ1.set i (some (.imm (.int x)))) = .ok (.int (f x)) (δ1.set i (some (.imm (.int x))))) : fLc (stName i) [i] fi tTrue fe δ = .ok (.own (.l (iL (xs.map f)))) δ1 := by
  have e := lc_map (xs := xs) (inj := D.int) (fun x => .int (f x)) h1 hfree hlen he
  rw [e]
  simp [iL]
theorem lc_intsD {i : Nat} {fi : FA} {fe : FD} {δ δ1 : Sl} {xs : List Int} (f : Int → D) (h1 : fi δ = .ok (iL xs) δ1) (hfree : freeS δ1 i = true) (hlen : xs.length ≤ 16777216)
    (he : ∀ x ∈ xs, fe (δ1.set i (some (.imm (.int x)))) = .ok (f x) (δ1.set i (some (.imm (.int x))))) : fLc (stName i) [i] fi tTrue fe δ = .ok (.own (.l (xs.map f))) δ1 :=
  lc_map (xs := xs) (inj := D.int) f h1 hfree hlen he
theorem setOB_int {acc : List Int} {j : Int} (h0 : 0 ≤ j) (h1 : j < acc.length) (v : Int) : setOB (.l (iL acc)) (.int j) (.int v) = some (.l (iL (acc.set j.toNat v))) := by
  have : ixN (iL acc).length j = some j.toNat := by
    unfold ixN
    simp [h0, h1]
  have e : (iL acc).set j.toNat (.int v) = iL (acc.set j.toNat v) := by simp only [iL, List.map_set]
  simp only [setOB, this, Option.map_some, e]
theorem ix_mod {t : List Int} (h : 0 < t.length) (x : Int) : gIx (.lst (iL t)) (.int (x % t.length)) = some (.imm (.int (act t x))) := by
  have b1 := Int.emod_nonneg x (show (t.length : Int) ≠ 0 by omega)
  have b2 := Int.emod_lt_of_pos x (show 0 < (t.length : Int) by omega)
  obtain ⟨i, ei⟩ := Int.eq_ofNat_of_zero_le b1
  have hi : i < t.length := by omega
  have ea : act t x = t[i] := by rw [← act_mod, ei, act_nat hi, List.getD_eq_getElem?_getD, List.getElem?_eq_getElem hi]; rfl
  rw [ei, gIx_ints hi, ea]
/-- the same, the body may change the slots: what holds is kept -/
theorem lc_inv {α : Type} {inj : α → D} {i : Nat} {fi : FA} {fe : FD} {δ δ1 : Sl} {xs : List α} (I : List α → List D → Sl → Prop) (h1 : fi δ = .ok (xs.map inj) δ1) (hfree : freeS δ1 i = true) (hlen : xs.length ≤ 16777216)
    (h0 : I [] [] (δ1.set i none))
    (he : ∀ pre x post acc δ, xs = pre ++ x :: post → I pre acc δ → ∃ y δ', fe (δ.set i (some (.imm (inj x)))) = .ok y δ' ∧ I (pre ++ [x]) (acc ++ [y]) (δ'.set i none)) :
    ∃ acc δ2, acc.length = xs.length ∧ I xs acc δ2 ∧ fLc (stName i) [i] fi tTrue fe δ = .ok (.own (.l acc)) (δ2.set i ((δ1[i]?).join)) := by
  have key : ∀ (post pre : List α) (acc : List D) (δ : Sl), xs = pre ++ post → acc.length = pre.length → I pre acc δ → ∃ acc' δ2, acc'.length = xs.length ∧ I xs acc' δ2 ∧ lcL (stName i) [i] tTrue fe (post.map inj) acc δ = .ok acc' δ2 := by
    intro post
    induction post with
    | nil =>
      intro pre acc δ e hl hI
      have : xs = pre := by simpa using e
      subst this
      exact ⟨acc, δ, hl, hI, rfl⟩
    | cons y ys ih =>
      intro pre acc δ e hl hI
      obtain ⟨z, δ', e1, hI'⟩ := he pre y ys acc δ e hI
      obtain ⟨acc', δ2, l2, i2, e2⟩ := ih (pre ++ [y]) (acc ++ [z]) (δ'.set i none) (by simp [e]) (by simp [hl]) hI'
      refine ⟨acc', δ2, l2, i2, ?_⟩
      simp only [List.map_cons, lcL, stName, ap_tTrue, noX, Res.bind_ok, if_true, e1]
      rw [if_pos (by rw [hl]; rw [e] at hlen; simp at hlen; omega)]
      exact e2
  obtain ⟨acc, δ2, l2, i2, e2⟩ := key xs [] [] (δ1.set i none) rfl rfl h0
  refine ⟨acc, δ2, l2, i2, ?_⟩
  unfold fLc
  rw [h1, Res.bind_ok]
  simp only [List.all_cons, List.all_nil, Bool.and_true, hfree, if_true]
  show ((lcL (stName i) [i] tTrue fe (xs.map inj) [] (δ1.set i none)).bind fun acc δ2 => Res.ok (R.own (.l acc)) (restD δ1 [i] δ2)) = _
  rw [e2, Res.bind_ok]
  rfl
/-- for x in xs: a body that always goes on -/
theorem for_inv {α : Type} {inj : α → D} {tg : R → Sl → SR} {body : FS} {δ : Sl} {xs : List α} (I : List α → Sl → Prop) (h0 : I [] δ)
    (he : ∀ pre x post δ, xs = pre ++ x :: post → I pre δ → ∃ δ', ((tg (.imm (inj x)) δ).bind body = .nx δ' ∨ (tg (.imm (inj x)) δ).bind body = .ct δ') ∧ I (pre ++ [x]) δ') :
    ∃ δ', I xs δ' ∧ forL tg body (xs.map inj) δ = .nx δ' := by
  have key : ∀ (post pre : List α) (δ : Sl), xs = pre ++ post → I pre δ → ∃ δ', I xs δ' ∧ forL tg body (post.map inj) δ = .nx δ' := by
    intro post
    induction post with
    | nil =>
      intro pre δ e hI
      have : xs = pre := by simpa using e
      subst this
      exact ⟨δ, hI, rfl⟩
    | cons y ys ih =>
      intro pre δ e hI
      obtain ⟨δ', e1, hI'⟩ := he pre y ys δ e hI
      obtain ⟨δ2, i2, e2⟩ := ih (pre ++ [y]) δ' (by simp [e]) hI'
      refine ⟨δ2, i2, ?_⟩
      simp only [List.map_cons, forL]
      rcases e1 with e1 | e1 <;> rw [e1] <;> exact e2
  exact key xs [] δ rfl h0
def enumL (i : Nat) : List Int → List (Nat × Int)
  | [] => []
  | x :: t => (i, x) :: enumL (i + 1) t
theorem enumD_map : ∀ (t : List Int) (i : Nat), enumD i (iL t) = (enumL i t).map fun p => .tup [.int (p.1 : Int), .int p.2]
  | [], i => rfl
  | x :: t, i => by
    have := enumD_map t (i + 1)
    simp only [iL, List.map_cons, enumD, enumL] at this ⊢
    rw [this]
theorem enumL_get : ∀ (t : List Int) (i j : Nat), (enumL i t)[j]? = (t[j]?).map fun x => (i + j, x)
  | [], i, j => by simp [enumL]
  | x :: t, i, 0 => by simp [enumL]
  | x :: t, i, j + 1 => by
    simp only [enumL, List.getElem?_cons_succ, enumL_get t (i + 1) j]
    congr 1; funext z; congr 1; omega
theorem enumL_len : ∀ (t : List Int) (i : Nat), (enumL i t).length = t.length
  | [], i => rfl
  | x :: t, i => by simp [enumL, enumL_len t (i + 1)]
theorem pre_get {α : Type} {xs pre post : List α} {x : α} (h : xs = pre ++ x :: post) : xs[pre.length]? = some x := by
  subst h; simp
theorem enum_at {t : List Int} {pre post : List (Nat × Int)} {p : Nat × Int} (h : enumL 0 t = pre ++ p :: post) : p.1 = pre.length ∧ t[pre.length]? = some p.2 ∧ pre.length < t.length := by
  have e := pre_get h
  rw [enumL_get] at e
  obtain ⟨x, e1, e2⟩ := Option.map_eq_some_iff.mp e
  subst e2
  refine ⟨by simp, e1, ?_⟩
  obtain ⟨hl, _⟩ := List.getElem?_eq_some_iff.mp e1
  exact hl
theorem nats_eq (k : Nat) : nats 0 k = (List.range k).map fun i : Nat => (i : Int) := by simp [nats, List.range_eq_range']
theorem itRg2_ok {f g : FD} {δ δ1 : Sl} {i k : Nat} (hi : i ≤ 16777216) (h : k ≤ 16777216) (e1 : f δ = .ok (.int (i : Int)) δ) (e2 : g δ = .ok (.int (k : Int)) δ1) : itRg2 f g δ = .ok (iL (nats i (k - i))) δ1 := by
  unfold itRg2
  rw [e1, Res.bind_ok, e2, Res.bind_ok]
  show (if gd (-4611686018427387904 ≤ (i : Int) ∧ (i : Int) < 4611686018427387904 ∧ -4611686018427387904 ≤ (k : Int) ∧ (k : Int) < 4611686018427387904) = true then Res.ok (rgD (i : Int) (k : Int)) δ1 else .bad) = _
  rw [if_pos (rg2_nat hi h)]
  congr 1
  simp only [rgD, iL, nats, List.map_map]
  rw [show ((k : Int) - (i : Int)).toNat = k - i by omega, List.range'_eq_map_range, List.map_map]
  apply List.map_congr_left
  intro a _
  simp
end
end TS

set_option maxRecDepth 100000
set_option maxHeartbeats 2000000
/-! TSM: plans as functions (plain). -/
namespace TS
theorem nodup_iff {α : Type} {l : List α} : l.Nodup ↔ ∀ i j, i < j → j < l.length → l[i]? ≠ l[j]? := by
  unfold List.Nodup
  rw [List.pairwise_iff_getElem]
  constructor
  · intro h i j hij hj e
    rw [List.getElem?_eq_getElem hj, List.getElem?_eq_getElem (by omega)] at e
    exact h i j (by omega) hj hij (Option.some.inj e)
  · intro h i j hi hj hij e
    exact h i j hij hj (by rw [List.getElem?_eq_getElem hj, List.getElem?_eq_getElem hi, e])
/-- where a place is led -/
def mv (t : List Int) (x : Int) : Int := x + act t x
structure Good (t : List Int) : Prop where
  pos : 0 < t.length
  len : t.length ≤ 2520
  inj : ∀ x y, mv t x = mv t y → x = y
def rems (n : Int) : Nat → List Int → List Int
  | _, [] => []
  | i, x :: t => ((i : Int) + x) % n :: rems n (i + 1) t
theorem rems_len (n : Int) : ∀ (t : List Int) (i : Nat), (rems n i t).length = t.length
  | [], i => rfl
  | x :: t, i => by simp [rems, rems_len n t (i + 1)]
theorem rems_get (n : Int) : ∀ (t : List Int) (i j : Nat), (rems n i t)[j]? = (t[j]?).map fun x => (((i + j : Nat) : Int) + x) % n
  | [], i, j => by simp [rems]
  | x :: t, i, 0 => by simp [rems]
  | x :: t, i, j + 1 => by
    simp only [rems, List.getElem?_cons_succ, rems_get n t (i + 1) j]
    congr 1; funext z; congr 2; omega
theorem act_get {t : List Int} {i : Nat} {x : Int} (h : t[i]? = some x) : act t i = x := by
  obtain ⟨hl, e⟩ := List.getElem?_eq_some_iff.mp h
  rw [act_nat hl, List.getD_eq_getElem?_getD, h]; rfl
theorem act_get' {t : List Int} {i : Nat} (h : i < t.length) : t[i]? = some (act t i) := by
  rw [act_nat h, List.getD_eq_getElem?_getD, List.getElem?_eq_getElem h]; rfl
theorem mv_per (t : List Int) (x : Int) : mv t (x + t.length) = mv t x + t.length := by
  unfold mv; rw [act_per t x]; omega
theorem mv_perk (t : List Int) (x k : Int) : mv t (x + k * t.length) = mv t x + k * t.length := by
  unfold mv; rw [(act_per t).mul k x]; omega
theorem Good.rems {t : List Int} (h : Good t) : (rems t.length 0 t).Nodup := by
  rw [nodup_iff]
  intro i j hij hj e
  rw [rems_len] at hj
  have hi : i < t.length := by omega
  rw [rems_get, rems_get, act_get' hi, act_get' hj] at e
  simp only [Option.map_some, Option.some.injEq, Nat.zero_add] at e
  have h0 : (t.length : Int) ≠ 0 := by omega
  -- mv i = mv j + k n
  have d : ∃ k : Int, mv t i = mv t j + k * t.length := by
    refine ⟨((i : Int) + act t i) / t.length - ((j : Int) + act t j) / t.length, ?_⟩
    have e1 := Int.emod_add_mul_ediv ((i : Int) + act t i) t.length
    have e2 := Int.emod_add_mul_ediv ((j : Int) + act t j) t.length
    unfold mv
    rw [Int.sub_mul, Int.mul_comm _ (t.length : Int), Int.mul_comm _ (t.length : Int)]
    omega
  obtain ⟨k, hk⟩ := d
  rw [← mv_perk] at hk
  have := h.inj _ _ hk
  -- i = j + k n with both in [0, n)
  have hk0 : k = 0 := by
    rcases Int.lt_trichotomy k 0 with hk | hk | hk
    · have : k * (t.length : Int) ≤ -1 * t.length := Int.mul_le_mul_of_nonneg_right (by omega) (by omega)
      omega
    · exact hk
    · have : 1 * (t.length : Int) ≤ k * t.length := Int.mul_le_mul_of_nonneg_right (by omega) (by omega)
      omega
  subst hk0
  omega
theorem good_of_rems {t : List Int} (h0 : 0 < t.length) (h1 : t.length ≤ 2520) (hn : (TS.rems t.length 0 t).Nodup) : Good t := by
  refine ⟨h0, h1, fun x y e => ?_⟩
  have key : ∀ z : Int, ∃ i : Nat, i < t.length ∧ z % (t.length : Int) = i ∧ act t z = act t i := fun z => by
    have b1 := Int.emod_nonneg z (show (t.length : Int) ≠ 0 by omega)
    have b2 := Int.emod_lt_of_pos z (show 0 < (t.length : Int) by omega)
    obtain ⟨i, ei⟩ := Int.eq_ofNat_of_zero_le b1
    exact ⟨i, by omega, ei, by rw [← act_mod t z, ei]⟩
  obtain ⟨i, hi, ei, ai⟩ := key x
  obtain ⟨j, hj, ej, aj⟩ := key y
  have q : i = j := by
    rcases Nat.lt_trichotomy i j with h | h | h
    · exfalso
      refine nodup_iff.mp hn i j h (by rw [rems_len]; exact hj) ?_
      rw [rems_get, rems_get, act_get' hi, act_get' hj]
      simp only [Option.map_some, Option.some.injEq, Nat.zero_add]
      rw [← ai, ← aj, ← ei, ← ej, Int.emod_add_emod, Int.emod_add_emod]
      unfold mv at e
      rw [e]
    · exact h
    · exfalso
      refine nodup_iff.mp hn j i h (by rw [rems_len]; exact hi) ?_
      rw [rems_get, rems_get, act_get' hi, act_get' hj]
      simp only [Option.map_some, Option.some.injEq, Nat.zero_add]
      rw [← ai, ← aj, ← ei, ← ej, Int.emod_add_emod, Int.emod_add_emod]
      unfold mv at e
      rw [e]
  subst q
  unfold mv at e
  rw [ai, aj] at e
  omega
theorem Good.least {t : List Int} (h : Good t) : Good (least t) := by
  refine ⟨least_pos h.pos, Nat.le_trans (least_le h.pos) h.len, fun x y e => h.inj x y ?_⟩
  unfold mv at e ⊢
  rw [least_act h.pos] at e
  exact e
theorem mv_least {t : List Int} (h : Good t) : mv (least t) = mv t := by
  funext x; unfold mv; rw [least_act h.pos]
/-- the table of a function -/
def tabOf (n : Nat) (f : Int → Int) : List Int := (List.range n).map fun i : Nat => f (i : Int)
theorem tabOf_len (n : Nat) (f : Int → Int) : (tabOf n f).length = n := by simp [tabOf]
theorem tabOf_act {n : Nat} {f : Int → Int} (h0 : 0 < n) (h : PerF f n) : act (tabOf n f) = f := by
  funext x
  rw [← act_mod, tabOf_len, ← per_mod h x]
  have b1 := Int.emod_nonneg x (show (n : Int) ≠ 0 by omega)
  have b2 := Int.emod_lt_of_pos x (show 0 < (n : Int) by omega)
  obtain ⟨i, ei⟩ := Int.eq_ofNat_of_zero_le b1
  rw [ei]
  refine act_get ?_
  have hi : i < n := by omega
  simp [tabOf, hi]
theorem tabOf_eq {n : Nat} {f g : Int → Int} (h : ∀ i : Nat, i < n → f i = g i) : tabOf n f = tabOf n g := by
  unfold tabOf
  apply List.map_congr_left
  intro i hi
  exact h i (List.mem_range.mp hi)
theorem tabOf_self (t : List Int) : tabOf t.length (act t) = t := by
  apply getD_ext (tabOf_len _ _)
  intro i hi
  have : (tabOf t.length (act t))[i]? = some (act t i) := by simp [tabOf, hi]
  rw [List.getD_eq_getElem?_getD, this, Option.getD_some, act_nat hi]
theorem good_tab {n : Nat} {f : Int → Int} (h0 : 0 < n) (h1 : n ≤ 2520) (h : PerF f n) (hi : ∀ x y, x + f x = y + f y → x = y) : Good (tabOf n f) := by
  refine ⟨by rw [tabOf_len]; exact h0, by rw [tabOf_len]; exact h1, fun x y e => hi x y ?_⟩
  unfold mv at e
  rw [tabOf_act h0 h] at e
  exact e
theorem good_act {t : List Int} (h0 : 0 < t.length) (h1 : t.length ≤ 2520) {s : List Int} (hs : Good s) (e : act t = act s) : Good t := ⟨h0, h1, fun x y q => hs.inj x y (by unfold mv at q ⊢; rw [e] at q; exact q)⟩
/-! one after another -/
def joinF (s t : List Int) (x : Int) : Int := mv t (mv s x) - x
theorem joinF_per {s t : List Int} {n : Nat} (h1 : s.length ∣ n) (h2 : t.length ∣ n) : PerF (joinF s t) n := fun x => by
  obtain ⟨a, ha⟩ := h1
  obtain ⟨b, hb⟩ := h2
  unfold joinF
  have e1 : (n : Int) = (a : Int) * s.length := by rw [ha, Int.natCast_mul, Int.mul_comm]
  have e2 : (n : Int) = (b : Int) * t.length := by rw [hb, Int.natCast_mul, Int.mul_comm]
  rw [e1, mv_perk, ← e1, e2, mv_perk, ← e2]
  omega
theorem joinF_inj {s t : List Int} (hs : Good s) (ht : Good t) (x y : Int) (e : x + joinF s t x = y + joinF s t y) : x = y := by
  unfold joinF at e
  exact hs.inj _ _ (ht.inj _ _ (by omega))
theorem leastP_dvd_len {t : List Int} (h : Good t) : (least t).length ∣ t.length := by rw [least_length h.pos]; exact (leastP_dvd h.pos).1
theorem lcm_least {s t : List Int} (hs : Good s) (ht : Good t) : Nat.lcm (least s).length (least t).length ≤ Nat.lcm s.length t.length ∧ 0 < Nat.lcm (least s).length (least t).length := by
  refine ⟨Nat.le_of_dvd (Nat.lcm_pos hs.pos ht.pos) (Nat.lcm_dvd (Nat.dvd_trans (leastP_dvd_len hs) (Nat.dvd_lcm_left _ _)) (Nat.dvd_trans (leastP_dvd_len ht) (Nat.dvd_lcm_right _ _))), Nat.lcm_pos hs.least.pos ht.least.pos⟩
end TS

set_option maxRecDepth 100000
set_option maxHeartbeats 2000000
/-! TSN: texts. -/
namespace TS
open PySem L2
noncomputable section
theorem strOk_of (s : String) : PyData.strOk (Str.ofString s) = true := by
  unfold PyData.strOk
  rw [Str.ofString_eq_toList]
  rw [Array.all_eq_true']
  intro n hn
  simp at hn
  obtain ⟨c, _, rfl⟩ := hn
  have := c.valid
  simp only [decide_eq_true_eq]
  show c.val.toNat < 1114112
  rcases this with h | h
  · have : c.val.toNat < 55296 := h
    omega
  · exact h.2
def numS (d : Int) : Str := toString d
theorem str_int {d : Int} (h : d.natAbs < 2 ^ 255) : gStrI [.int d] = some (.imm (.str (numS d))) := by
  have := log2_lt h (by decide)
  have : d.natAbs.log2 < 1920 := by omega
  simp only [gStrI, this, if_true, numS]
theorem shaped_str {x : Str} (h : PyData.strOk x = true) : SeqAt.shaped (PyData.str x) = true := by unfold SeqAt.shaped; simp [PyData.canLay0, PyData.depth, h]
theorem gNe_str {x y : Str} (h : PyData.strOk x = true) (h' : PyData.strOk y = true) : gNe (.str x) (.str y) = some (.imm (.bl (!decide (x = y)))) := by
  have : PyData.eqv (.str x) (.str y) = decide (x = y) := by
    by_cases e : x = y
    · subst e; simp [PyData.eqv]
    · simp [PyData.eqv, e]
  simp [gNe, toP, shaped_str h, shaped_str h', this]
theorem gEq_str {x y : Str} (h : PyData.strOk x = true) (h' : PyData.strOk y = true) : gEq (.str x) (.str y) = some (.imm (.bl (decide (x = y)))) := by
  have : PyData.eqv (.str x) (.str y) = decide (x = y) := by
    by_cases e : x = y
    · subst e; simp [PyData.eqv]
    · simp [PyData.eqv, e]
  simp [gEq, toP, shaped_str h, shaped_str h', this]
theorem gNe_num (d : Int) : gNe (.str (numS d)) (.str (numS d)) = some (.imm (.bl false)) := by
  unfold numS
  rw [gNe_str (strOk_of _) (strOk_of _)]; simp
theorem cells_ok (c : Int) (n : Nat) (hc : 0 ≤ c ∧ c < 100) : ∃ k : Nat, k < 100 ∧ (if 1 < (if (n : Int) < c then (n : Int) else c) then (if (n : Int) < c then (n : Int) else c) else 1) = (k : Int) := by
  by_cases h5 : (n : Int) < c
  · rw [if_pos h5]
    by_cases h1 : (1 : Int) < n
    · rw [if_pos h1]; exact ⟨n, by omega, rfl⟩
    · rw [if_neg h1]; exact ⟨1, by omega, rfl⟩
  · rw [if_neg h5]
    by_cases h1 : (1 : Int) < c
    · rw [if_pos h1]; exact ⟨c.toNat, by omega, by omega⟩
    · rw [if_neg h1]; exact ⟨1, by omega, rfl⟩
theorem blsOf_true : ∀ l : List Int, blsOf (l.map fun _ => D.bl true) = some (l.map fun _ => true)
  | [] => rfl
  | x :: l => by simp only [List.map_cons, blsOf, blsOf_true l, Option.map_some]
theorem gAll_true (l : List Int) : gAll [.lst (l.map fun _ => D.bl true)] = some (.imm (.bl true)) := by
  simp only [gAll, blsOf_true]
  simp
/-- a law over up to c cells -/
abbrev lawG (c : Int) (F : FD) : FS := sRet (fCal gAll (aOne (frz (fLc (stName 1) [1] (itRg1 (frz (fCal gMax (aCons (kD (.int 1)) (aCons (frz (fCal gMin (aCons (kD (.int c)) (aCons (frz (fCal gLen (aOne (vP 0)))) aNil)))) aNil))))) tTrue F))))
theorem law_of {c : Int} (hc : 0 ≤ c ∧ c < 100) {F : FD} (ns : List Int) (hF : ∀ a : Nat, a < 100 → F [some (.imm (.scr (ns.map D.int))), some (.imm (.int (a : Int)))] = .ok (.bl true) [some (.imm (.scr (ns.map D.int))), some (.imm (.int (a : Int)))]) : mir 2 1 (lawG c F) none [.scr (ns.map D.int)] = .ok (.imm (.bl true)) none := by
  obtain ⟨k, hk, ek⟩ := cells_ok c ns.length hc
  have ga := gAll_true (nats 0 k)
  have q : fLc (stName 1) [1] (itRg1 (frz (fCal gMax (aCons (kD (.int 1)) (aCons (frz (fCal gMin (aCons (kD (.int c)) (aCons (frz (fCal gLen (aOne (vP 0)))) aNil)))) aNil))))) tTrue F [some (.imm (.scr (ns.map D.int))), none] = .ok (.own (.l ((nats 0 k).map fun _ => D.bl true))) [some (.imm (.scr (ns.map D.int))), none] := by
    refine lc_intsD (xs := nats 0 k) (fun _ => .bl true) (itRg1_ok (by omega) (by simp [ek])) rfl (by rw [nats_len]; omega) (fun x hx => ?_)
    simp [nats] at hx
    obtain ⟨a, ha, rfl⟩ := hx
    exact hF a (by omega)
  generalize ((nats 0 k).map fun _ => D.bl true) = L at *
  have s4 : ∀ G : FS, mir 2 1 G none [.scr (ns.map D.int)] = outR none (G [some (.imm (.scr (ns.map D.int))), none]) := fun G => by simp [mir, ini, ioS, ioN]
  rw [s4]
  unfold lawG
  rw [ap_sRet, ap_fCal, ap_aOne, ap_frz, q]
  simp [ga, outR, ioOut]
end
end TS

set_option maxRecDepth 100000
set_option maxHeartbeats 2000000
/-! TSO: sources, the opposite of a move (plain). -/
namespace TS
/-- the remainders that are led to 0, 1, .. -/
def srcL (n : Nat) : Nat → List Int → List Int → List Int
  | _, [], acc => acc
  | i, x :: t, acc => srcL n (i + 1) t (acc.set (((i : Int) + x) % n).toNat i)
def srcs (t : List Int) : List Int := srcL t.length 0 t (List.replicate t.length 0)
theorem srcL_len (n : Nat) : ∀ (t : List Int) (i : Nat) (acc : List Int), (srcL n i t acc).length = acc.length
  | [], i, acc => rfl
  | x :: t, i, acc => by rw [srcL, srcL_len n t]; simp
theorem srcs_len (t : List Int) : (srcs t).length = t.length := by unfold srcs; rw [srcL_len]; simp
/-- what stands at a place no later one is led to, stays -/
theorem srcL_stay (n : Nat) (hn : 0 < n) : ∀ (t : List Int) (i : Nat) (acc : List Int) (j : Nat), (∀ r ∈ rems n i t, r ≠ j) → (srcL n i t acc)[j]? = acc[j]?
  | [], i, acc, j, _ => rfl
  | x :: t, i, acc, j, h => by
    rw [srcL, srcL_stay n hn t (i + 1) _ j (fun r hr => h r (by simp [rems, hr]))]
    have h0 := h (((i : Int) + x) % n) (by simp [rems])
    have b := Int.emod_nonneg ((i : Int) + x) (show (n : Int) ≠ 0 by omega)
    rw [List.getElem?_set_ne (by omega)]
theorem srcL_at (n : Nat) (hn : 0 < n) : ∀ (t : List Int) (i : Nat) (acc : List Int) (k : Nat) (x : Int), acc.length = n → (rems n i t).Nodup → t[k]? = some x → (srcL n i t acc)[((((i + k : Nat) : Int) + x) % n).toNat]? = some ((i + k : Nat) : Int)
  | [], i, acc, k, x, _, _, h => by simp at h
  | y :: t, i, acc, 0, x, hl, hnd, h => by
    simp at h
    subst h
    have b0 := Int.emod_nonneg ((i : Int) + y) (show (n : Int) ≠ 0 by omega)
    have b1 := Int.emod_lt_of_pos ((i : Int) + y) (show 0 < (n : Int) by omega)
    rw [srcL]
    simp only [Nat.add_zero]
    have hnd' := List.nodup_cons.mp (show (((i : Int) + y) % n :: rems n (i + 1) t).Nodup from hnd)
    rw [srcL_stay n hn t (i + 1) _ _ (fun r hr e => hnd'.1 (by
      have : r = ((i : Int) + y) % n := by omega
      rw [← this]; exact hr))]
    rw [List.getElem?_set_self (by omega)]
  | y :: t, i, acc, k + 1, x, hl, hnd, h => by
    have hnd' := List.nodup_cons.mp (show (((i : Int) + y) % n :: rems n (i + 1) t).Nodup from hnd)
    have e := srcL_at n hn t (i + 1) (acc.set (((i : Int) + y) % n).toNat i) k x (by simp [hl]) hnd'.2 (by simpa using h)
    rw [srcL]
    have z : i + 1 + k = i + (k + 1) := by omega
    rw [z] at e
    exact e
theorem srcs_at {t : List Int} (h : Good t) {k : Nat} (hk : k < t.length) : (srcs t)[((((k : Nat) : Int) + act t k) % t.length).toNat]? = some (k : Int) := by
  have e := srcL_at t.length h.pos t 0 (List.replicate t.length 0) k (act t k) (by simp) h.rems (act_get' hk)
  rw [Nat.zero_add] at e
  exact e
/-! all remainders are met -/
theorem nd_le : ∀ (n : Nat) (l : List Nat), l.Nodup → (∀ x ∈ l, x < n) → l.length ≤ n
  | 0, l, _, h => by
    cases l with
    | nil => simp
    | cons a l => exact absurd (h a (by simp)) (by omega)
  | n + 1, l, hn, h => by
    by_cases hm : n ∈ l
    · have e := nd_le n (l.erase n) (hn.erase n) fun x hx => by
        have h1 := h x (List.mem_of_mem_erase hx)
        have h2 : x ≠ n := fun z => by
          subst z
          exact absurd hx (List.Nodup.not_mem_erase hn)
        omega
      rw [List.length_erase_of_mem hm] at e
      omega
    · have e := nd_le n l hn fun x hx => by
        have h1 := h x hx
        have h2 : x ≠ n := fun z => hm (z ▸ hx)
        omega
      omega
theorem nd_all (n : Nat) (l : List Nat) (hn : l.Nodup) (h : ∀ x ∈ l, x < n) (hl : l.length = n) (j : Nat) (hj : j < n) : j ∈ l := by
  refine Classical.byContradiction fun hm => ?_
  have := nd_le n (j :: l) (List.nodup_cons.mpr ⟨hm, hn⟩) (fun x hx => by
    rcases List.mem_cons.mp hx with rfl | hx
    · exact hj
    · exact h x hx)
  simp at this
  omega
theorem rems_bd {n : Nat} (hn : 0 < n) (t : List Int) (i : Nat) : ∀ r ∈ rems n i t, 0 ≤ r ∧ r < n := by
  intro r hr
  obtain ⟨j, hj, e⟩ := List.getElem_of_mem hr
  have := rems_get n t i j
  rw [List.getElem?_eq_getElem hj, e] at this
  obtain ⟨x, _, q⟩ := Option.map_eq_some_iff.mp this.symm
  rw [← q]
  exact ⟨Int.emod_nonneg _ (by omega), Int.emod_lt_of_pos _ (by omega)⟩
/-- each remainder has a source -/
theorem src_ex {t : List Int} (h : Good t) {j : Nat} (hj : j < t.length) : ∃ k : Nat, k < t.length ∧ ((k : Int) + act t k) % t.length = j ∧ (srcs t)[j]? = some (k : Int) := by
  have hnd := h.rems
  have hb := rems_bd h.pos t 0
  have hm : j ∈ (rems t.length 0 t).map Int.toNat := by
    refine nd_all t.length _ ?_ ?_ ?_ j hj
    · unfold List.Nodup
      rw [List.pairwise_map]
      refine List.Pairwise.imp_of_mem ?_ hnd
      intro a b ha hb' hab e
      have := hb a ha
      have := hb b hb'
      omega
    · intro x hx
      obtain ⟨r, hr, rfl⟩ := List.mem_map.mp hx
      have := hb r hr
      omega
    · simp [rems_len]
  obtain ⟨r, hr, e⟩ := List.mem_map.mp hm
  obtain ⟨k, hk, ek⟩ := List.getElem_of_mem hr
  rw [rems_len] at hk
  have q := rems_get t.length t 0 k
  rw [List.getElem?_eq_getElem (by rw [rems_len]; exact hk), ek, act_get' hk, Option.map_some, Nat.zero_add] at q
  have q := Option.some.inj q
  have rb := hb r hr
  refine ⟨k, hk, by omega, ?_⟩
  have s := srcs_at h hk
  rw [← q, e] at s
  exact s
/-- the place that is led to x -/
def inv (t : List Int) (x : Int) : Int := x - act t (act (srcs t) x)
theorem mv_inv {t : List Int} (h : Good t) (x : Int) : mv t (inv t x) = x := by
  have b0 := Int.emod_nonneg x (show (t.length : Int) ≠ 0 by have := h.pos; omega)
  have b1 := Int.emod_lt_of_pos x (show 0 < (t.length : Int) by have := h.pos; omega)
  obtain ⟨j, ej⟩ := Int.eq_ofNat_of_zero_le b0
  obtain ⟨k, hk, e1, e2⟩ := src_ex h (j := j) (by omega)
  have e3 : act (srcs t) x = k := by
    rw [← act_mod, srcs_len, ej]
    exact act_get e2
  unfold inv
  rw [e3]
  -- x = k + act t k + q n
  have d : ∃ q : Int, x - act t k = k + q * t.length := by
    have h1 := Int.emod_add_mul_ediv x t.length
    have h2 := Int.emod_add_mul_ediv ((k : Int) + act t k) t.length
    refine ⟨x / t.length - ((k : Int) + act t k) / t.length, ?_⟩
    rw [Int.sub_mul, Int.mul_comm _ (t.length : Int), Int.mul_comm _ (t.length : Int)]
    omega
  obtain ⟨q, hq⟩ := d
  rw [hq, mv_perk]
  unfold mv
  omega
theorem inv_mv {t : List Int} (h : Good t) (x : Int) : inv t (mv t x) = x := h.inj _ _ (mv_inv h _)
theorem inv_eq {t : List Int} (h : Good t) {x y : Int} (e : mv t y = x) : inv t x = y := by rw [← e, inv_mv h]
theorem inv_least {t : List Int} (h : Good t) : inv (least t) = inv t := by
  funext x
  refine (inv_eq h.least ?_)
  rw [mv_least h, mv_inv h]
theorem inv_perk {t : List Int} (h : Good t) (x k : Int) : inv t (x + k * t.length) = inv t x + k * t.length := by
  refine inv_eq h ?_
  rw [mv_perk, mv_inv h]
/-- the table of the opposite -/
def invT (t : List Int) : List Int := tabOf t.length fun x => inv t x - x
theorem invT_len (t : List Int) : (invT t).length = t.length := tabOf_len _ _
theorem invT_per {t : List Int} (h : Good t) : PerF (fun x => inv t x - x) t.length := fun x => by
  have := inv_perk h x 1
  rw [Int.one_mul] at this
  show inv t (x + t.length) - (x + t.length) = inv t x - x
  rw [this]; omega
theorem invT_mv {t : List Int} (h : Good t) (x : Int) : mv (invT t) x = inv t x := by
  unfold mv invT
  rw [tabOf_act h.pos (invT_per h)]
  show x + (inv t x - x) = inv t x
  omega
theorem invT_good {t : List Int} (h : Good t) : Good (invT t) := by
  refine ⟨by rw [invT_len]; exact h.pos, by rw [invT_len]; exact h.len, fun x y e => ?_⟩
  rw [invT_mv h, invT_mv h] at e
  rw [← mv_inv h x, e, mv_inv h]
theorem act_of_mv {s t : List Int} (h : ∀ x, mv s x = mv t x) : act s = act t := by
  funext x
  have := h x
  unfold mv at this
  omega
/-- renamed by b -/
def renF (t b : List Int) (x : Int) : Int := mv b (mv t (inv b x)) - x
theorem renF_per {t b : List Int} (hb : Good b) {n : Nat} (h1 : t.length ∣ n) (h2 : b.length ∣ n) : PerF (renF t b) n := fun x => by
  obtain ⟨p, hp⟩ := h1
  obtain ⟨q, hq⟩ := h2
  have e1 : (n : Int) = (p : Int) * t.length := by rw [hp, Int.natCast_mul, Int.mul_comm]
  have e2 : (n : Int) = (q : Int) * b.length := by rw [hq, Int.natCast_mul, Int.mul_comm]
  unfold renF
  have a1 : inv b (x + n) = inv b x + n := by rw [e2, inv_perk hb]
  have a2 : mv t (inv b x + n) = mv t (inv b x) + n := by rw [e1, mv_perk]
  have a3 : ∀ y, mv b (y + n) = mv b y + n := fun y => by rw [e2, mv_perk]
  rw [a1, a2, a3]; omega
theorem renF_inj {t b : List Int} (ht : Good t) (hb : Good b) (x y : Int) (e : x + renF t b x = y + renF t b y) : x = y := by
  unfold renF at e
  have h1 := ht.inj _ _ (hb.inj _ _ (show mv b (mv t (inv b x)) = mv b (mv t (inv b y)) by omega))
  rw [← mv_inv hb x, h1, mv_inv hb]
/-- a product of tables, a renamed table -/
def joinT (s t : List Int) : List Int := tabOf (Nat.lcm s.length t.length) (joinF s t)
def renT (t b : List Int) : List Int := tabOf (Nat.lcm t.length b.length) (renF t b)
theorem joinT_good {s t : List Int} (hs : Good s) (ht : Good t) (hl : Nat.lcm s.length t.length ≤ 2520) : Good (joinT s t) := good_tab (Nat.lcm_pos hs.pos ht.pos) hl (joinF_per (Nat.dvd_lcm_left _ _) (Nat.dvd_lcm_right _ _)) (joinF_inj hs ht)
theorem joinT_mv {s t : List Int} (hs : Good s) (ht : Good t) (x : Int) : mv (joinT s t) x = mv t (mv s x) := by
  unfold joinT
  have e := tabOf_act (Nat.lcm_pos hs.pos ht.pos) (joinF_per (s := s) (t := t) (Nat.dvd_lcm_left _ _) (Nat.dvd_lcm_right _ _))
  unfold mv at *
  rw [e]; unfold joinF mv; omega
theorem renT_good {t b : List Int} (ht : Good t) (hb : Good b) (hl : Nat.lcm t.length b.length ≤ 2520) : Good (renT t b) := good_tab (Nat.lcm_pos ht.pos hb.pos) hl (renF_per hb (Nat.dvd_lcm_left _ _) (Nat.dvd_lcm_right _ _)) (renF_inj ht hb)
theorem renT_mv {t b : List Int} (ht : Good t) (hb : Good b) (x : Int) : mv (renT t b) x = mv b (mv t (inv b x)) := by
  unfold renT
  have e := tabOf_act (Nat.lcm_pos ht.pos hb.pos) (renF_per (t := t) hb (Nat.dvd_lcm_left _ _) (Nat.dvd_lcm_right _ _))
  have h : mv (tabOf (Nat.lcm t.length b.length) (renF t b)) x = x + renF t b x := by unfold mv; rw [e]
  rw [h]; unfold renF; omega
end TS

set_option maxRecDepth 100000
set_option maxHeartbeats 2000000
/-! TSQ: powers of a move, cycles of remainders (plain). -/
namespace TS
def itr (f : Int → Int) : Nat → Int → Int
  | 0, x => x
  | k + 1, x => f (itr f k x)
theorem itr_comm (f : Int → Int) : ∀ (k : Nat) (x : Int), itr f k (f x) = f (itr f k x)
  | 0, x => rfl
  | k + 1, x => by rw [itr, itr_comm f k x]; rfl
/-- the power n of the move -/
def pwr (t : List Int) (n : Int) (x : Int) : Int := if 0 ≤ n then itr (mv t) n.toNat x else itr (inv t) (-n).toNat x
theorem pwr_zero (t : List Int) (x : Int) : pwr t 0 x = x := rfl
theorem pwr_succ {t : List Int} (h : Good t) (n : Int) (x : Int) : pwr t (n + 1) x = mv t (pwr t n x) := by
  unfold pwr
  by_cases h0 : 0 ≤ n
  · rw [if_pos h0, if_pos (by omega), show (n + 1).toNat = n.toNat + 1 by omega]; rfl
  · rw [if_neg h0]
    by_cases h1 : n = -1
    · subst h1
      rw [if_pos (by omega)]
      show x = mv t (inv t x)
      rw [mv_inv h]
    · rw [if_neg (by omega), show (-n).toNat = (-(n + 1)).toNat + 1 by omega]
      show _ = mv t (inv t _)
      rw [mv_inv h]
/-- it is the only one -/
theorem pwr_uniq {t : List Int} (h : Good t) {x : Int} {g : Int → Int} (h0 : g 0 = x) (h1 : ∀ n, g (n + 1) = mv t (g n)) (n : Int) : g n = pwr t n x := by
  have up : ∀ k : Nat, g (k : Int) = pwr t k x := fun k => by
    induction k with
    | zero => rw [Int.natCast_zero, h0, pwr_zero]
    | succ k ih => rw [Int.natCast_succ, h1, ih, pwr_succ h]
  have dn : ∀ k : Nat, g (-(k : Int)) = pwr t (-(k : Int)) x := fun k => by
    induction k with
    | zero => simpa using up 0
    | succ k ih =>
      refine h.inj _ _ ?_
      rw [← h1, ← pwr_succ h]
      have : -((k + 1 : Nat) : Int) + 1 = -(k : Int) := by omega
      rw [this]; exact ih
  rcases Int.le_total 0 n with q | q
  · obtain ⟨k, rfl⟩ := Int.eq_ofNat_of_zero_le q
    exact up k
  · obtain ⟨k, e⟩ := Int.eq_ofNat_of_zero_le (show 0 ≤ -n by omega)
    have : n = -(k : Int) := by omega
    rw [this]; exact dn k
theorem pwr_one {t : List Int} (h : Good t) (x : Int) : pwr t 1 x = mv t x := pwr_succ h 0 x
theorem pwr_add {t : List Int} (h : Good t) (m n x : Int) : pwr t (m + n) x = pwr t n (pwr t m x) :=
  pwr_uniq h (g := fun n => pwr t (m + n) x) (by show pwr t (m + 0) x = _; rw [Int.add_zero]) (fun n => by show pwr t (m + (n + 1)) x = _; rw [← Int.add_assoc, pwr_succ h]) n
theorem pwr_neg1 {t : List Int} (h : Good t) (x : Int) : pwr t (-1) x = inv t x := by
  refine (inv_eq h ?_).symm
  rw [← pwr_succ h]; rfl
theorem pwr_inj {t : List Int} (h : Good t) (n x y : Int) (e : pwr t n x = pwr t n y) : x = y := by
  have q : ∀ z, pwr t (-n) (pwr t n z) = z := fun z => by rw [← pwr_add h, Int.add_right_neg, pwr_zero]
  rw [← q x, e, q]
theorem pwr_perk {t : List Int} (h : Good t) (n x k : Int) : pwr t n (x + k * t.length) = pwr t n x + k * t.length :=
  (pwr_uniq h (g := fun n => pwr t n x + k * t.length) (by show pwr t 0 x + _ = _; rw [pwr_zero]) (fun n => by show pwr t (n + 1) x + _ = mv t (pwr t n x + _); rw [mv_perk, pwr_succ h]) n).symm
theorem pwr_mv_eq {s t : List Int} (hs : Good s) (ht : Good t) (h : ∀ x, mv s x = mv t x) (n x : Int) : pwr s n x = pwr t n x :=
  pwr_uniq ht (g := fun n => pwr s n x) (pwr_zero s x) (fun n => by show pwr s (n + 1) x = _; rw [pwr_succ hs, h]) n
def powT (t : List Int) (n : Int) : List Int := tabOf t.length fun x => pwr t n x - x
theorem powT_per {t : List Int} (h : Good t) (n : Int) : PerF (fun x => pwr t n x - x) t.length := fun x => by
  have := pwr_perk h n x 1
  rw [Int.one_mul] at this
  show pwr t n (x + t.length) - (x + t.length) = pwr t n x - x
  rw [this]; omega
theorem powT_mv {t : List Int} (h : Good t) (n x : Int) : mv (powT t n) x = pwr t n x := by
  unfold mv powT
  rw [tabOf_act h.pos (powT_per h n)]
  show x + (pwr t n x - x) = _
  omega
theorem powT_good {t : List Int} (h : Good t) (n : Int) : Good (powT t n) := by
  refine ⟨by unfold powT; rw [tabOf_len]; exact h.pos, by unfold powT; rw [tabOf_len]; exact h.len, fun x y e => ?_⟩
  rw [powT_mv h, powT_mv h] at e
  exact pwr_inj h n x y e
/-! remainders -/
def nx (t : List Int) (j : Nat) : Nat := (((j : Int) + act t j) % t.length).toNat
theorem nx_int {t : List Int} (h : 0 < t.length) (j : Nat) : ((nx t j : Nat) : Int) = ((j : Int) + act t j) % t.length := by
  have := Int.emod_nonneg ((j : Int) + act t j) (show (t.length : Int) ≠ 0 by omega)
  unfold nx; omega
theorem nx_lt {t : List Int} (h : 0 < t.length) (j : Nat) : nx t j < t.length := by
  have := Int.emod_lt_of_pos ((j : Int) + act t j) (show 0 < (t.length : Int) by omega)
  have := nx_int h j
  omega
theorem nx_inj {t : List Int} (h : Good t) {j k : Nat} (hj : j < t.length) (hk : k < t.length) (e : nx t j = nx t k) : j = k := by
  have a := srcs_at h hj
  have b := srcs_at h hk
  unfold nx at e
  rw [e, b] at a
  have := Option.some.inj a
  omega
/-- a walk along remainders -/
structure Path (t : List Int) (c : List Nat) : Prop where
  lt : ∀ j ∈ c, j < t.length
  step : ∀ (k : Nat) (a b : Nat), c[k]? = some a → c[k + 1]? = some b → b = nx t a
structure Cyc (t : List Int) (c : List Nat) : Prop where
  path : Path t c
  nd : c.Nodup
  ne : 0 < c.length
  close : ∀ a b, c[c.length - 1]? = some a → c[0]? = some b → b = nx t a
/-- the sum of the offsets of the first k steps -/
def sumK (t : List Int) (c : List Nat) : Nat → Int
  | 0 => 0
  | k + 1 => sumK t c k + act t (c.getD (k % c.length) 0)
def sumG (t : List Int) (c : List Nat) (k : Int) : Int := k / c.length * sumK t c c.length + sumK t c (k % c.length).toNat
theorem sumG_step {t : List Int} {c : List Nat} (hc : 0 < c.length) (k : Int) : sumG t c (k + 1) = sumG t c k + act t (c.getD (k % c.length).toNat 0) := by
  have b0 := Int.emod_nonneg k (show (c.length : Int) ≠ 0 by omega)
  have b1 := Int.emod_lt_of_pos k (show 0 < (c.length : Int) by omega)
  have e := Int.emod_add_mul_ediv k c.length
  obtain ⟨r, hr⟩ := Int.eq_ofNat_of_zero_le b0
  have hrl : r < c.length := by omega
  by_cases hl : r + 1 < c.length
  · have q : (k + 1) / (c.length : Int) = k / c.length ∧ (k + 1) % (c.length : Int) = r + 1 := by
      rw [Int.ediv_emod_unique (by omega)]
      refine ⟨?_, by omega, by omega⟩
      omega
    unfold sumG
    rw [q.1, q.2, hr]
    rw [show ((r : Int) + 1).toNat = r + 1 by omega, Int.toNat_natCast, sumK, Nat.mod_eq_of_lt hrl]
    omega
  · have hrm : r + 1 = c.length := by omega
    have q : (k + 1) / (c.length : Int) = k / c.length + 1 ∧ (k + 1) % (c.length : Int) = 0 := by
      rw [Int.ediv_emod_unique (by omega)]
      refine ⟨?_, by omega, by omega⟩
      rw [Int.mul_add, Int.mul_one]
      omega
    unfold sumG
    rw [q.1, q.2, hr]
    have e2 : sumK t c c.length = sumK t c r + act t (c.getD r 0) := by
      rw [← hrm, sumK, Nat.mod_eq_of_lt hrl]
    show (k / c.length + 1) * sumK t c c.length + sumK t c 0 = k / c.length * sumK t c c.length + sumK t c (r : Int).toNat + act t (c.getD (r : Int).toNat 0)
    rw [Int.toNat_natCast, Int.add_mul, Int.one_mul]
    show _ + 0 = _
    omega
theorem sumG_nat {t : List Int} {c : List Nat} (hc : 0 < c.length) : ∀ k : Nat, sumG t c (k : Int) = sumK t c k
  | 0 => by
    unfold sumG
    show 0 / (c.length : Int) * _ + sumK t c ((0 : Int) % c.length).toNat = 0
    rw [Int.zero_ediv, Int.zero_emod, Int.zero_mul]; rfl
  | k + 1 => by
    rw [Int.natCast_succ, sumG_step hc, sumG_nat hc k, sumK]
    congr 2
theorem sumG_lap {t : List Int} {c : List Nat} (hc : 0 < c.length) (k l : Int) : sumG t c (k + l * c.length) = sumG t c k + l * sumK t c c.length := by
  unfold sumG
  rw [Int.add_mul_emod_self_right, Int.add_mul_ediv_right _ _ (by omega), Int.add_mul]
  omega
/-- the remainder behind k steps -/
theorem sumG_rem {t : List Int} {c : List Nat} (hc : Cyc t c) (ht : 0 < t.length) {c0 : Nat} (h0 : c[0]? = some c0) (k : Int) : ((c0 : Int) + sumG t c k) % t.length = (c.getD (k % c.length).toNat 0 : Nat) := by
  have hl := hc.ne
  have step : ∀ k : Int, ((c0 : Int) + sumG t c k) % t.length = (c.getD (k % c.length).toNat 0 : Nat) → ((c0 : Int) + sumG t c (k + 1)) % t.length = (c.getD ((k + 1) % c.length).toNat 0 : Nat) := by
    intro k e
    have b0 := Int.emod_nonneg k (show (c.length : Int) ≠ 0 by omega)
    have b1 := Int.emod_lt_of_pos k (show 0 < (c.length : Int) by omega)
    obtain ⟨r, hr⟩ := Int.eq_ofNat_of_zero_le b0
    have hrl : r < c.length := by omega
    rw [hr, Int.toNat_natCast] at e
    have ga : c[r]? = some (c.getD r 0) := by rw [List.getD_eq_getElem?_getD, List.getElem?_eq_getElem hrl]; rfl
    have nxt : c.getD ((k + 1) % c.length).toNat 0 = nx t (c.getD r 0) := by
      by_cases hll : r + 1 < c.length
      · have q : (k + 1) % (c.length : Int) = r + 1 := by
          rw [← Int.emod_add_emod, hr, Int.emod_eq_of_lt (by omega) (by omega)]
        rw [q, show ((r : Int) + 1).toNat = r + 1 by omega]
        refine hc.path.step r _ _ ga ?_
        rw [List.getD_eq_getElem?_getD, List.getElem?_eq_getElem hll]; rfl
      · have hrm : r + 1 = c.length := by omega
        have q : (k + 1) % (c.length : Int) = 0 := by
          rw [← Int.emod_add_emod, hr, show (r : Int) + 1 = c.length by omega, Int.emod_self]
        rw [q]
        refine hc.close _ _ (by rw [show c.length - 1 = r by omega]; exact ga) ?_
        show c[0]? = some (c.getD 0 0)
        rw [List.getD_eq_getElem?_getD, List.getElem?_eq_getElem hl]; rfl
    rw [nxt, nx_int ht, sumG_step hl, hr, Int.toNat_natCast, ← Int.add_assoc, ← Int.emod_add_emod, e]
  have base : ((c0 : Int) + sumG t c 0) % t.length = (c.getD ((0 : Int) % c.length).toNat 0 : Nat) := by
    have g0 : sumG t c 0 = 0 := sumG_nat hl 0
    rw [g0, Int.zero_emod, Int.add_zero]
    show (c0 : Int) % _ = (c.getD 0 0 : Nat)
    have : c.getD 0 0 = c0 := by rw [List.getD_eq_getElem?_getD, h0]; rfl
    rw [this]
    have := hc.path.lt c0 (List.mem_of_getElem? h0)
    exact Int.emod_eq_of_lt (by omega) (by omega)
  have nonneg : ∀ k : Nat, ((c0 : Int) + sumG t c k) % t.length = (c.getD ((k : Int) % c.length).toNat 0 : Nat) := fun k => by
    induction k with
    | zero => exact base
    | succ k ih => rw [Int.natCast_succ]; exact step k ih
  -- all k by whole laps
  have lap0 : sumK t c c.length % t.length = 0 := by
    have e1 := nonneg c.length
    rw [sumG_nat hl, Int.emod_self] at e1
    have : c.getD ((0 : Int)).toNat 0 = c0 := by
      show c.getD 0 0 = c0
      rw [List.getD_eq_getElem?_getD, h0]; rfl
    rw [this] at e1
    have hlt := hc.path.lt c0 (List.mem_of_getElem? h0)
    have e2 : ((c0 : Int) + sumK t c c.length - c0) % t.length = 0 := by
      rw [Int.sub_emod, e1, Int.emod_eq_of_lt (show (0 : Int) ≤ c0 by omega) (by omega), Int.sub_self, Int.zero_emod]
    rw [show (c0 : Int) + sumK t c c.length - c0 = sumK t c c.length by omega] at e2
    exact e2
  have hk : k = (k % c.length) + (k / c.length) * c.length := by
    have := Int.emod_add_mul_ediv k c.length
    rw [Int.mul_comm] at this
    omega
  have b0 := Int.emod_nonneg k (show (c.length : Int) ≠ 0 by omega)
  obtain ⟨r, hr⟩ := Int.eq_ofNat_of_zero_le b0
  have e3 := nonneg r
  have b1 := Int.emod_lt_of_pos k (show 0 < (c.length : Int) by omega)
  rw [show (r : Int) % (c.length : Int) = r from Int.emod_eq_of_lt (by omega) (by omega)] at e3
  rw [hr, ← e3]
  conv => lhs; rw [hk, sumG_lap hl, hr]
  rw [← Int.add_assoc, Int.add_emod, Int.mul_emod, lap0, Int.mul_zero, Int.zero_emod, Int.add_zero, Int.emod_emod_of_dvd _ (Int.dvd_refl _)]
/-- a power at a remainder of a cycle -/
theorem pwr_cyc {t : List Int} (h : Good t) {c : List Nat} (hc : Cyc t c) {i : Nat} {p : Nat} (hi : c[i]? = some p) (n : Int) : pwr t n p = p + sumG t c (i + n) - sumG t c i := by
  have hl := hc.ne
  obtain ⟨hil, _⟩ := List.getElem?_eq_some_iff.mp hi
  obtain ⟨c0, h0⟩ : ∃ c0, c[0]? = some c0 := ⟨c[0], List.getElem?_eq_getElem hl⟩
  refine (pwr_uniq h (g := fun n => p + sumG t c (i + n) - sumG t c i) ?_ (fun n => ?_) n).symm
  · show (p : Int) + sumG t c (i + 0) - _ = _
    rw [Int.add_zero]; omega
  · show (p : Int) + sumG t c (i + (n + 1)) - _ = mv t (p + sumG t c (i + n) - sumG t c i)
    have e1 := sumG_step (t := t) hl (i + n)
    rw [← Int.add_assoc, e1]
    unfold mv
    -- the remainder of the place is that of the cycle
    have r1 := sumG_rem hc h.pos h0 (i + n)
    have r2 := sumG_rem hc h.pos h0 i
    have g2 : c.getD ((i : Int) % c.length).toNat 0 = p := by
      rw [Int.emod_eq_of_lt (by omega) (by omega), Int.toNat_natCast, List.getD_eq_getElem?_getD, hi]; rfl
    rw [g2] at r2
    have plt := hc.path.lt p (List.mem_of_getElem? hi)
    have r3 : ((p : Int) + sumG t c (i + n) - sumG t c i) % t.length = ((c0 : Int) + sumG t c (i + n)) % t.length := by
      have : ((p : Int) + sumG t c (i + n) - sumG t c i) = ((c0 : Int) + sumG t c (i + n)) + (p - (c0 + sumG t c i)) := by omega
      rw [this, Int.add_emod]
      have z : ((p : Int) - (c0 + sumG t c i)) % t.length = 0 := by
        rw [Int.sub_emod, r2, Int.emod_eq_of_lt (show (0 : Int) ≤ p by omega) (by omega), Int.sub_self, Int.zero_emod]
      rw [z, Int.add_zero, Int.emod_emod_of_dvd _ (Int.dvd_refl _)]
    have r4 : act t ((p : Int) + sumG t c (i + n) - sumG t c i) = act t (c.getD ((i + n) % c.length).toNat 0 : Nat) := by
      rw [← act_mod, r3, r1]
    rw [r4]
    omega
end TS

set_option maxRecDepth 100000
set_option maxHeartbeats 2000000
/-! TSR: sums over a period, flows (plain). -/
namespace TS
open PySem L2
noncomputable section
/-- the sum of f over 0 .. n - 1 -/
def sm (f : Int → Int) : Nat → Int
  | 0 => 0
  | n + 1 => sm f n + f (n : Int)
theorem tabOf_sum (f : Int → Int) : ∀ n : Nat, (tabOf n f).sum = sm f n
  | 0 => rfl
  | n + 1 => by
    have e : tabOf (n + 1) f = tabOf n f ++ [f n] := by simp [tabOf, List.range_succ]
    rw [e, List.sum_append, tabOf_sum f n]
    simp [sm]
theorem sum_act (t : List Int) : t.sum = sm (act t) t.length := by
  conv => lhs; rw [← tabOf_self t]
  exact tabOf_sum _ _
theorem sm_congr {f g : Int → Int} : ∀ {n : Nat}, (∀ i : Nat, i < n → f i = g i) → sm f n = sm g n
  | 0, _ => rfl
  | n + 1, h => by
    simp only [sm]
    rw [sm_congr fun i hi => h i (by omega), h n (by omega)]
theorem sm_plus (f g : Int → Int) : ∀ n : Nat, sm (fun i => f i + g i) n = sm f n + sm g n
  | 0 => rfl
  | n + 1 => by simp only [sm]; rw [sm_plus f g n]; omega
theorem sm_minus (f g : Int → Int) : ∀ n : Nat, sm (fun i => f i - g i) n = sm f n - sm g n
  | 0 => rfl
  | n + 1 => by simp only [sm]; rw [sm_minus f g n]; omega
theorem sm_times (k : Int) (f : Int → Int) : ∀ n : Nat, sm (fun i => k * f i) n = k * sm f n
  | 0 => by simp [sm]
  | n + 1 => by simp only [sm]; rw [sm_times k f n, Int.mul_add]
theorem sm_const (k : Int) : ∀ n : Nat, sm (fun _ => k) n = n * k
  | 0 => by simp [sm]
  | n + 1 => by simp only [sm]; rw [sm_const k n, Int.natCast_succ, Int.add_mul, Int.one_mul]
theorem sm_nonneg {f : Int → Int} : ∀ {n : Nat}, (∀ i : Nat, i < n → 0 ≤ f i) → 0 ≤ sm f n
  | 0, _ => Int.le_refl _
  | n + 1, h => by
    simp only [sm]
    have := sm_nonneg (n := n) fun i hi => h i (by omega)
    have := h n (by omega)
    omega
theorem sm_le {f g : Int → Int} : ∀ {n : Nat}, (∀ i : Nat, i < n → f i ≤ g i) → sm f n ≤ sm g n
  | 0, _ => Int.le_refl _
  | n + 1, h => by
    simp only [sm]
    have := sm_le (n := n) fun i hi => h i (by omega)
    have := h n (by omega)
    omega
theorem sm_add (f : Int → Int) (a : Nat) : ∀ b : Nat, sm f (a + b) = sm f a + sm (fun i => f (a + i)) b
  | 0 => by simp [sm]
  | b + 1 => by
    rw [← Nat.add_assoc]
    simp only [sm]
    rw [sm_add f a b, Int.natCast_add]
    omega
theorem sm_per {f : Int → Int} {p : Nat} (h : PerF f p) : ∀ k : Nat, sm f (k * p) = k * sm f p
  | 0 => by simp [sm]
  | k + 1 => by
    rw [Nat.succ_mul, sm_add, sm_per h k]
    have e : sm (fun i => f (((k * p : Nat) : Int) + i)) p = sm f p := sm_congr fun i hi => by
      rw [Int.natCast_mul, Int.add_comm]
      exact (h.mulN k) i
    rw [e, Int.natCast_succ, Int.add_mul, Int.one_mul]
/-! lists of different remainders -/
theorem nd_len : ∀ (n : Nat) (l : List Int), l.Nodup → (∀ x ∈ l, 0 ≤ x ∧ x < n) → l.length ≤ n
  | 0, [], _, _ => Nat.le_refl _
  | 0, x :: l, _, h => by have := h x (by simp); omega
  | n + 1, l, hn, h => by
    have e : (l.erase (n : Int)).length ≤ n := nd_len n _ (hn.erase _) fun x hx => by
      have h1 := h x (List.mem_of_mem_erase hx)
      have h2 : x ≠ n := fun q => by subst q; exact (List.Nodup.not_mem_erase hn) hx
      omega
    have : l.length ≤ (l.erase (n : Int)).length + 1 := by
      rw [List.length_erase]; split <;> omega
    omega
theorem nd_perm : ∀ (n : Nat) (l : List Int), l.Nodup → (∀ x ∈ l, 0 ≤ x ∧ x < n) → l.length = n → l.Perm (nats 0 n)
  | 0, l, _, _, hl => by
    have : l = [] := List.length_eq_zero_iff.mp hl
    subst this
    exact List.Perm.refl _
  | n + 1, l, hn, h, hl => by
    have hm : (n : Int) ∈ l := by
      by_cases hm : (n : Int) ∈ l
      · exact hm
      · have := nd_len n l hn fun x hx => by
          have h1 := h x hx
          have h2 : x ≠ n := fun q => by subst q; exact hm hx
          omega
        omega
    have e := nd_perm n (l.erase (n : Int)) (hn.erase _) (fun x hx => by
      have h1 := h x (List.mem_of_mem_erase hx)
      have h2 : x ≠ n := fun q => by subst q; exact (List.Nodup.not_mem_erase hn) hx
      omega) (by rw [List.length_erase_of_mem hm]; omega)
    have e2 : nats 0 (n + 1) = nats 0 n ++ [(n : Int)] := by simp [nats, List.range'_concat]
    rw [e2]
    exact (List.perm_cons_erase hm).trans ((e.cons _).trans (List.perm_append_comm (l₁ := [(n : Int)])))
theorem perm_sum {a b : List Int} (h : a.Perm b) : a.sum = b.sum := by
  induction h with
  | nil => rfl
  | cons x _ ih => simp [ih]
  | swap x y l => simp; omega
  | trans _ _ h1 h2 => exact h1.trans h2
theorem tabOf_nodup {n : Nat} {g : Int → Int} (h : ∀ i j : Nat, i < n → j < n → g i = g j → i = j) : (tabOf n g).Nodup := by
  rw [nodup_iff]
  intro i j hij hj e
  rw [tabOf_len] at hj
  simp only [tabOf, List.getElem?_map, List.getElem?_range hj, List.getElem?_range (show i < n by omega), Option.map_some] at e
  have := h i j (by omega) hj (Option.some.inj e)
  omega
theorem tabOf_perm {n : Nat} {g : Int → Int} (h : ∀ i j : Nat, i < n → j < n → g i = g j → i = j) (hb : ∀ i : Nat, i < n → 0 ≤ g i ∧ g i < n) : (tabOf n g).Perm (nats 0 n) :=
  nd_perm n _ (tabOf_nodup h) (fun x hx => by
    obtain ⟨i, hi, rfl⟩ := List.mem_map.mp hx
    exact hb i (by simpa using hi)) (tabOf_len _ _)
theorem nats_tab (n : Nat) : nats 0 n = tabOf n id := by simp [nats, tabOf, List.range_eq_range']
theorem sm_comp (f : Int → Int) {n : Nat} {g : Int → Int} (h : ∀ i j : Nat, i < n → j < n → g i = g j → i = j) (hb : ∀ i : Nat, i < n → 0 ≤ g i ∧ g i < n) : sm (fun i => f (g i)) n = sm f n := by
  have p := (tabOf_perm h hb).map f
  have q := perm_sum p
  rw [nats_tab] at q
  simp only [tabOf, List.map_map] at q
  have e1 := tabOf_sum (fun i => f (g i)) n
  have e2 := tabOf_sum f n
  simp only [tabOf] at e1 e2
  rw [← e1, ← e2]
  exact q
/-- the remainders of the goals, seen from c -/
theorem rem_inj {t : List Int} (h : Good t) {n : Nat} (hd : t.length ∣ n) (h0 : 0 < n) (c : Int) : ∀ i j : Nat, i < n → j < n → (mv t i - c) % n = (mv t j - c) % n → i = j := by
  intro i j hi hj e
  have e2 : (n : Int) ∣ (mv t i - mv t j) := by
    have := Int.dvd_of_emod_eq_zero (Int.emod_eq_emod_iff_emod_sub_eq_zero.mp e)
    rwa [show mv t i - c - (mv t j - c) = mv t i - mv t j by omega] at this
  obtain ⟨k, hk⟩ := e2
  obtain ⟨m, rfl⟩ := hd
  have e3 : mv t i = mv t ((j : Int) + (m * k) * t.length) := by
    rw [mv_perk]
    have : ((t.length * m : Nat) : Int) * k = m * k * t.length := by rw [Int.natCast_mul, Int.mul_comm (t.length : Int), Int.mul_right_comm]
    omega
  have e4 := h.inj _ _ e3
  have e5 : ((m : Int) * k) * t.length = ((t.length * m : Nat) : Int) * k := by rw [Int.natCast_mul, Int.mul_comm (t.length : Int), Int.mul_right_comm]
  rw [e5] at e4
  have hk0 : k = 0 := by
    rcases Int.lt_trichotomy k 0 with hk | hk | hk
    · have : ((t.length * m : Nat) : Int) * k ≤ ((t.length * m : Nat) : Int) * (-1) := Int.mul_le_mul_of_nonneg_left (by omega) (by omega)
      omega
    · exact hk
    · have : ((t.length * m : Nat) : Int) * 1 ≤ ((t.length * m : Nat) : Int) * k := Int.mul_le_mul_of_nonneg_left (by omega) (by omega)
      omega
  subst hk0
  omega
theorem rem_sum {t : List Int} (h : Good t) {n : Nat} (hd : t.length ∣ n) (h0 : 0 < n) (c : Int) (f : Int → Int) (hf : PerF f n) : sm (fun i => f (mv t i - c)) n = sm f n := by
  have e := sm_comp f (g := fun i => (mv t i - c) % n) (rem_inj h hd h0 c) fun i _ => ⟨Int.emod_nonneg _ (by omega), Int.emod_lt_of_pos _ (by omega)⟩
  rw [← e]
  exact sm_congr fun i _ => (per_mod hf _).symm
theorem good_id : Good [0] := by
  refine ⟨by decide, by decide, fun x y e => ?_⟩
  have : ∀ x, act [0] x = 0 := fun x => by rw [← act_mod]; simp [act]
  simpa [mv, this] using e
theorem mv_id (x : Int) : mv [0] x = x := by
  have : act [0] x = 0 := by rw [← act_mod]; simp [act]
  simp [mv, this]
/-- how many places pass the cut, less how many pass it downward -/
def cnt (t : List Int) (c : Int) : Int := sm (fun i => (i + act t i - c) / t.length - (i - c) / t.length) t.length
theorem cnt_sum {t : List Int} (h : Good t) (c : Int) : t.length * cnt t c = t.sum := by
  have hp := h.pos
  unfold cnt
  rw [← sm_times, sum_act]
  have r1 := rem_sum h (Nat.dvd_refl _) hp c (fun z => z % t.length) (fun z => by simp)
  have r2 := rem_sum good_id (n := t.length) ⟨t.length, by simp⟩ hp c (fun z => z % t.length) (fun z => by simp)
  simp only [mv_id] at r2
  have e : sm (fun i => (t.length : Int) * ((i + act t i - c) / t.length - (i - c) / t.length)) t.length = sm (fun i => act t i - ((mv t i - c) % t.length - (i - c) % t.length)) t.length := sm_congr fun i _ => by
    have a1 := Int.mul_ediv_add_emod (i + act t i - c) t.length
    have a2 := Int.mul_ediv_add_emod ((i : Int) - c) t.length
    unfold mv
    rw [Int.mul_sub]
    omega
  rw [e, sm_minus, sm_minus, r1, r2]
  omega
def flw (t : List Int) : Int := t.sum / t.length
theorem cnt_flw {t : List Int} (h : Good t) (c : Int) : cnt t c = flw t := by
  unfold flw
  rw [← cnt_sum h c, Int.mul_ediv_cancel_left _ (by have := h.pos; omega)]
theorem flw_sum {t : List Int} (h : Good t) : t.sum = t.length * flw t := by rw [← cnt_flw h 0, cnt_sum h]
theorem flw_of {t : List Int} (h : 0 < t.length) {k : Int} (e : t.sum = t.length * k) : flw t = k := by
  unfold flw
  rw [e, Int.mul_ediv_cancel_left _ (by omega)]
/-- the flow hangs on the action alone -/
theorem flw_per {t : List Int} (h : Good t) {n : Nat} (h0 : 0 < n) (hp : PerF (act t) n) : sm (act t) n = n * flw t := by
  have a1 := sm_per (act_per t) n
  have a2 := sm_per hp t.length
  rw [Nat.mul_comm, a2, ← sum_act, flw_sum h] at a1
  have : (t.length : Int) * sm (act t) n = t.length * (n * flw t) := by rw [a1, ← Int.mul_assoc, ← Int.mul_assoc, Int.mul_comm (n : Int)]
  exact Int.eq_of_mul_eq_mul_left (by have := h.pos; omega) this
theorem flw_act {s t : List Int} (hs : Good s) (ht : Good t) (e : act s = act t) : flw s = flw t := by
  have := flw_per ht hs.pos (by rw [← e]; exact act_per s)
  rw [← e, ← sum_act] at this
  exact flw_of hs.pos this
theorem flw_least {t : List Int} (h : Good t) : flw (least t) = flw t := flw_act h.least h (least_act h.pos)
theorem flw_join {s t : List Int} (hs : Good s) (ht : Good t) {n : Nat} (h0 : 0 < n) (h1 : s.length ∣ n) (h2 : t.length ∣ n) : sm (joinF s t) n = n * (flw s + flw t) := by
  have pt : PerF (act t) n := by obtain ⟨k, rfl⟩ := h2; have := (act_per t).mulN k; rwa [Int.mul_comm, ← Int.natCast_mul] at this
  have ps : PerF (act s) n := by obtain ⟨k, rfl⟩ := h1; have := (act_per s).mulN k; rwa [Int.mul_comm, ← Int.natCast_mul] at this
  have e : sm (joinF s t) n = sm (fun i => act s i + act t (mv s i - 0)) n := sm_congr fun i _ => by
    unfold joinF mv; simp only [Int.sub_zero]; omega
  rw [e, sm_plus, rem_sum hs h1 h0 0 (act t) pt, flw_per hs h0 ps, flw_per ht h0 pt, Int.mul_add]
theorem flw_nonneg {t : List Int} (h : 0 < t.length) (hn : ∀ x ∈ t, 0 ≤ x) : 0 ≤ flw t := by
  unfold flw
  refine Int.ediv_nonneg ?_ (by omega)
  rw [sum_act]
  exact sm_nonneg fun i hi => hn _ (List.mem_of_getElem? (act_get' hi))
theorem flw_le {t : List Int} (h : Good t) {b : Int} (hn : ∀ x ∈ t, x ≤ b) : flw t ≤ b := by
  have e := flw_sum h
  have : t.sum ≤ t.length * b := by
    rw [sum_act, ← sm_const]
    exact sm_le fun i hi => hn _ (List.mem_of_getElem? (act_get' hi))
  rw [e] at this
  exact Int.le_of_mul_le_mul_left this (by have := h.pos; omega)
theorem flw_ge {t : List Int} (h : Good t) {b : Int} (hn : ∀ x ∈ t, b ≤ x) : b ≤ flw t := by
  have e := flw_sum h
  have : t.length * b ≤ t.sum := by
    rw [sum_act, ← sm_const]
    exact sm_le fun i hi => hn _ (List.mem_of_getElem? (act_get' hi))
  rw [e] at this
  exact Int.le_of_mul_le_mul_left this (by have := h.pos; omega)
/-! comprehensions with any target and condition, slots written out -/
theorem lc_gen {α : Type} {inj : α → D} {setT : D → Sl → Option Sl} {vs : List Nat} {fi : FA} {ft : FT} {fe : FD} {δ δ1 : Sl} {xs : List α} (p : α → Bool) (out : α → D) (δw : Sl) (h1 : fi δ = .ok (xs.map inj) δ1) (hfree : vs.all (freeS δ1) = true) (hw : wipeD δ1 vs = δw) (hr : restD δ1 vs δw = δ1) (hlen : xs.length ≤ 16777216)
    (he : ∀ x ∈ xs, ∃ δx, setT (inj x) δw = some δx ∧ ft δx = .ok (p x) δx ∧ (p x = true → fe δx = .ok (out x) δx) ∧ wipeD δx vs = δw) : fLc setT vs fi ft fe δ = .ok (.own (.l ((xs.filter p).map out))) δ1 := by
  have key : ∀ (ys : List α) (acc : List D), (∀ y ∈ ys, y ∈ xs) → acc.length + ys.length ≤ 16777216 → lcL setT vs ft fe (ys.map inj) acc δw = .ok (acc ++ (ys.filter p).map out) δw := by
    intro ys
    induction ys with
    | nil => intro acc _ _; simp [lcL]
    | cons y ys ih =>
      intro acc hm hl
      obtain ⟨δx, e1, e2, e3, e4⟩ := he y (hm y (by simp))
      simp only [List.map_cons, lcL, e1, e2, noX, Res.bind_ok]
      cases hp : p y with
      | true =>
        rw [if_pos rfl, e3 hp]
        simp only [noX, Res.bind_ok]
        rw [if_pos (by simp at hl; omega), e4, ih (acc ++ [out y]) (fun z hz => hm z (by simp [hz])) (by simp at hl ⊢; omega)]
        simp [hp]
      | false =>
        rw [if_neg (by simp), e4, ih acc (fun z hz => hm z (by simp [hz])) (by simp at hl ⊢; omega)]
        simp [hp]
  unfold fLc
  rw [h1, Res.bind_ok, if_pos hfree, hw, key xs [] (fun _ h => h) (by simpa using hlen), Res.bind_ok]
  simp only [List.nil_append, hr]
theorem lc_all {α : Type} {inj : α → D} {setT : D → Sl → Option Sl} {vs : List Nat} {fi : FA} {fe : FD} {δ δ1 : Sl} {xs : List α} (out : α → D) (δw : Sl) (h1 : fi δ = .ok (xs.map inj) δ1) (hfree : vs.all (freeS δ1) = true) (hw : wipeD δ1 vs = δw) (hr : restD δ1 vs δw = δ1) (hlen : xs.length ≤ 16777216)
    (he : ∀ x ∈ xs, ∃ δx, setT (inj x) δw = some δx ∧ fe δx = .ok (out x) δx ∧ wipeD δx vs = δw) : fLc setT vs fi tTrue fe δ = .ok (.own (.l (xs.map out))) δ1 := by
  have := lc_gen (ft := tTrue) (fun _ => true) out δw h1 hfree hw hr hlen fun x hx => by
    obtain ⟨δx, e1, e2, e3⟩ := he x hx
    exact ⟨δx, e1, rfl, fun _ => e2, e3⟩
  rw [this, List.filter_eq_self.mpr (fun _ _ => rfl)]
theorem gSum_l (xs : List Int) : gSum [.lst (iL xs)] = some (.imm (.int xs.sum)) := by simp [gSum, intsD_ints]
theorem itRg2W_ok {f g : FD} {δ δ1 δ2 : Sl} {a b : Int} (e1 : f δ = .ok (.int a) δ1) (e2 : g δ1 = .ok (.int b) δ2) : itRg2W f g δ = .ok (iL ((List.range (b - a).toNat).map fun i : Nat => a + (i : Int))) δ2 := by
  simp [itRg2W, e1, e2, rgD, iL, Function.comp_def]
theorem gSorted_l (xs : List Int) : gSorted [.lst (iL xs)] = some (.own (.l (iL (srt xs)))) := by
  simp only [gSorted, intsD_ints]; rfl
end
end TS

set_option maxRecDepth 100000
set_option maxHeartbeats 2000000
/-! TSS: repr of lists and tuples of ints (plain). -/
namespace TS
open PySem L2
noncomputable section
theorem strOk_app {a b : Str} (h : PyData.strOk a = true) (h' : PyData.strOk b = true) : PyData.strOk (a ++ b) = true := by
  have e : (a ++ b).cps = a.cps ++ b.cps := rfl
  unfold PyData.strOk at *
  rw [e, Array.all_append, h, h']; rfl
theorem strOk_from : ∀ (ts : List Str) (k : Nat) (acc : Str), PyData.strOk acc = true → (∀ t ∈ ts, PyData.strOk t = true) → PyData.strOk (textFrom k acc ts) = true
  | [], _, _, h, _ => h
  | t :: ts, k, acc, h, ht => strOk_from ts (k + 1) _ (strOk_app (strOk_app h (strOk_of _)) (ht t (by simp))) fun x hx => ht x (by simp [hx])
theorem strOk_join : ∀ (ts : List Str), (∀ t ∈ ts, PyData.strOk t = true) → PyData.strOk (Str.join ", " ts) = true
  | [], _ => strOk_of ""
  | [x], h => h x (by simp)
  | x :: y :: r, h => strOk_app (strOk_app (h x (by simp)) (strOk_of _)) (strOk_join (y :: r) fun z hz => h z (by simp [hz]))
mutual
def fine : PyData → Prop
  | .none => True
  | .bool _ => True
  | .int i => i.natAbs < 2 ^ 255
  | .str x => PyData.strOk (PyData.shown (.str x)) = true ∧ PyData.showable (.str x) = true ∧ PyData.leavesShort 80 (.str x) = true
  | .list xs => fineAll xs
  | .tuple xs => fineAll xs
  | .dict _ => False
def fineAll : List PyData → Prop
  | [] => True
  | x :: xs => fine x ∧ fineAll xs
end
mutual
theorem fine_text : ∀ p : PyData, fine p → PyData.strOk p.shown = true
  | .none, _ => strOk_of _
  | .bool b, _ => by unfold PyData.shown; split <;> exact strOk_of _
  | .int i, _ => by unfold PyData.shown; exact strOk_of _
  | .str _, h => by unfold fine at h; exact h.1
  | .list xs, h => by
    unfold fine at h
    unfold PyData.shown listText
    exact strOk_app (strOk_from _ _ _ (strOk_of _) (fineAll_text xs h)) (strOk_of _)
  | .tuple xs, h => by
    unfold fine at h
    unfold PyData.shown tupleText
    exact strOk_app (strOk_app (strOk_of _) (strOk_join _ (fineAll_text xs h))) (strOk_of _)
  | .dict _, h => by simp [fine] at h
theorem fineAll_text : ∀ xs : List PyData, fineAll xs → ∀ t ∈ PyData.shownAll xs, PyData.strOk t = true
  | [], _, t, ht => by simp [PyData.shownAll] at ht
  | x :: xs, h, t, ht => by
    unfold fineAll at h
    rw [PyData.shownAll, List.mem_cons] at ht
    rcases ht with rfl | ht
    · exact fine_text x h.1
    · exact fineAll_text xs h.2 t ht
end
theorem int_log {i : Int} (h : i.natAbs < 2 ^ 255) : i.natAbs.log2 < 1920 := by
  have := log2_lt h (by decide)
  omega
mutual
theorem fine_show : ∀ p : PyData, fine p → p.showable = true ∧ p.hasDict = false ∧ p.leavesShort 80 = true
  | .none, _ => by simp [PyData.showable, PyData.hasDict, PyData.leavesShort]
  | .bool b, _ => by simp [PyData.showable, PyData.hasDict, PyData.leavesShort]
  | .int i, h => by
    unfold fine at h
    have h2 := int_log h
    have h3 : (PyData.shown (.int i)).length ≤ 80 := by
      unfold PyData.shown
      have e := int_text_length_le10 (a := i) (k := 78) (by decide) (Nat.lt_trans h (by decide))
      show (Str.ofString (toString i)).length ≤ 80
      simp only [Str.length, Str.ofString_eq_toList, List.size_toArray, List.length_map]
      rw [String.length_toList]
      omega
    simp [PyData.showable, PyData.hasDict, PyData.leavesShort, h2, h3]
  | .str _, h => by unfold fine at h; exact ⟨h.2.1, by simp [PyData.hasDict], h.2.2⟩
  | .list xs, h => by
    unfold fine at h
    unfold PyData.showable PyData.hasDict PyData.leavesShort
    exact fineAll_show xs h
  | .tuple xs, h => by
    unfold fine at h
    unfold PyData.showable PyData.hasDict PyData.leavesShort
    exact fineAll_show xs h
  | .dict _, h => by simp [fine] at h
theorem fineAll_show : ∀ xs : List PyData, fineAll xs → PyData.showableAll xs = true ∧ PyData.hasDictAll xs = false ∧ PyData.leavesShortAll 80 xs = true
  | [], _ => by simp [PyData.showableAll, PyData.hasDictAll, PyData.leavesShortAll]
  | x :: xs, h => by
    unfold fineAll at h
    have h1 := fine_show x h.1
    have h2 := fineAll_show xs h.2
    simp [PyData.showableAll, PyData.hasDictAll, PyData.leavesShortAll, h1, h2]
end
theorem fine_sh {p : PyData} (h : fine p) (hd : p.depth ≤ 32) (hb : p.bulk ≤ 100000) : shOk p = true := by
  obtain ⟨h1, h2, h3⟩ := fine_show p h
  have := PyData.shown_le_bulk 80 (by decide) p h3
  exact gd_true ⟨h1, h2, hd, by show _ ≤ 2 ^ 24; omega⟩
theorem repr_fine {d : D} {p : PyData} (e : toP d = some p) (h : fine p) (hd : p.depth ≤ 32) (hb : p.bulk ≤ 100000) : gRepr [d] = some (.imm (.str p.shown)) := by
  simp only [gRepr, e, fine_sh h hd hb, if_true]
theorem ne_fine {p : PyData} (h : fine p) : gNe (.str p.shown) (.str p.shown) = some (.imm (.bl false)) := by
  rw [gNe_str (fine_text p h) (fine_text p h)]; simp
theorem fine_ints : ∀ {xs : List Int}, (∀ x ∈ xs, x.natAbs < 2 ^ 255) → fineAll (xs.map PyData.int)
  | [], _ => trivial
  | x :: xs, h => ⟨h x (by simp), fine_ints fun y hy => h y (by simp [hy])⟩
theorem bulk_ints : ∀ xs : List Int, PyData.bulkAll (xs.map PyData.int) = xs.length
  | [] => rfl
  | x :: xs => by simp only [List.map_cons, PyData.bulkAll, PyData.bulk, bulk_ints xs, List.length_cons]; omega
def reprL (xs : List Int) : Str := (PyData.list (xs.map PyData.int)).shown
theorem repr_l {xs : List Int} (h : ∀ x ∈ xs, x.natAbs < 2 ^ 255) (hl : xs.length ≤ 10000) : gRepr [.lst (iL xs)] = some (.imm (.str (reprL xs))) :=
  repr_fine (toP_l xs) (by unfold fine; exact fine_ints h) (by
    have := depth_ints xs
    simp only [PyData.depth]; omega) (by simp only [PyData.bulk, bulk_ints]; omega)
theorem reprL_ne {xs : List Int} (h : ∀ x ∈ xs, x.natAbs < 2 ^ 255) : gNe (.str (reprL xs)) (.str (reprL xs)) = some (.imm (.bl false)) := ne_fine (p := .list _) (by unfold fine; exact fine_ints h)
/-- two lists of ints in a list -/
def reprLL (xs ys : List Int) : Str := (PyData.list [.list (xs.map PyData.int), .list (ys.map PyData.int)]).shown
theorem repr_ll {xs ys : List Int} (h : ∀ x ∈ xs, x.natAbs < 2 ^ 255) (h' : ∀ x ∈ ys, x.natAbs < 2 ^ 255) (hl : xs.length ≤ 10000) (hl' : ys.length ≤ 10000) : gRepr [.lst [.lst (iL xs), .lst (iL ys)]] = some (.imm (.str (reprLL xs ys))) :=
  repr_fine (p := .list [.list (xs.map PyData.int), .list (ys.map PyData.int)]) (by simp [toP, toPs, toPs_ints]) (by simp only [fine, fineAll]; exact ⟨fine_ints h, fine_ints h', trivial⟩) (by
    have := depth_ints xs
    have := depth_ints ys
    simp only [PyData.depth, PyData.depthAll]; omega) (by simp only [PyData.bulk, PyData.bulkAll, bulk_ints]; omega)
theorem reprLL_ne {xs ys : List Int} (h : ∀ x ∈ xs, x.natAbs < 2 ^ 255) (h' : ∀ x ∈ ys, x.natAbs < 2 ^ 255) : gNe (.str (reprLL xs ys)) (.str (reprLL xs ys)) = some (.imm (.bl false)) := ne_fine (p := .list _) (by simp only [fine, fineAll]; exact ⟨fine_ints h, fine_ints h', trivial⟩)
end
end TS

set_option maxRecDepth 100000
set_option maxHeartbeats 2000000
/-! TST: flows, bounds and periods of products, inverses, powers (plain). -/
namespace TS
theorem per_dvd {t : List Int} (h : 0 < t.length) {n : Nat} (h0 : 0 < n) (hp : PerF (act t) n) : (least t).length ∣ n := by
  have m := leastP_min h
  rw [least_length h]
  have g := PerF.gcd (leastP t) n (leastP_dvd h).2.2 hp
  have hg : 0 < Nat.gcd (leastP t) n := Nat.gcd_pos_of_pos_right _ h0
  have := m.min _ hg g
  have e : Nat.gcd (leastP t) n = leastP t := Nat.le_antisymm (Nat.gcd_le_left _ (leastP_dvd h).2.1) this
  rw [← e]
  exact Nat.gcd_dvd_right _ _
theorem per_of_dvd {t : List Int} {n : Nat} (hd : t.length ∣ n) : PerF (act t) n := by
  obtain ⟨k, rfl⟩ := hd
  have := (act_per t).mulN k
  rwa [Int.mul_comm, ← Int.natCast_mul] at this
theorem sm_mv {t : List Int} (h : Good t) {n : Nat} (h0 : 0 < n) (hp : PerF (act t) n) (f : Int → Int) (hf : PerF f n) : sm (fun i => f (mv t i)) n = sm f n := by
  have hd := per_dvd h.pos h0 hp
  have := rem_sum h.least hd h0 0 f hf
  simp only [Int.sub_zero, mv_least h] at this
  exact this
/-- a plan of the flow F whose period divides 2520 and that moves no place further than B -/
structure PF (u : List Int) (F B : Int) : Prop where
  good : Good u
  flow : flw u = F
  bd : ∀ x, -B ≤ act u x ∧ act u x ≤ B
  per : PerF (act u) (2520 : Nat)
theorem PF.sum {u : List Int} {F B : Int} (h : PF u F B) : sm (act u) 2520 = 2520 * F := by
  rw [← h.flow]; exact flw_per h.good (by decide) h.per
theorem PF.dvd {u : List Int} {F B : Int} (h : PF u F B) : (least u).length ∣ 2520 := per_dvd h.good.pos (by decide) h.per
theorem PF.lcm {u v : List Int} {F B F' B' : Int} (h : PF u F B) (h' : PF v F' B') : Nat.lcm (least u).length (least v).length ≤ 2520 := Nat.le_of_dvd (by decide) (Nat.lcm_dvd h.dvd h'.dvd)
theorem PF.mvper {u : List Int} {F B : Int} (h : PF u F B) (x : Int) : mv u (x + (2520 : Nat)) = mv u x + (2520 : Nat) := by
  unfold mv; rw [h.per]; omega
theorem PF.of_sum {u : List Int} {F B : Int} (g : Good u) (hp : PerF (act u) (2520 : Nat)) (hs : sm (act u) 2520 = 2520 * F) (hb : ∀ x, -B ≤ act u x ∧ act u x ≤ B) : PF u F B :=
  ⟨g, by have := flw_per g (by decide) hp; rw [hs] at this; omega, hb, hp⟩
theorem PF.mono {u : List Int} {F B B' : Int} (h : PF u F B) (hb : B ≤ B') : PF u F B' := ⟨h.good, h.flow, fun x => by have := h.bd x; omega, h.per⟩
theorem PF.join {u v w : List Int} {F B F' B' : Int} (h : PF u F B) (h' : PF v F' B') (g : Good w) (e : ∀ x, mv w x = mv v (mv u x)) : PF w (F + F') (B + B') := by
  have ea : ∀ x, act w x = act u x + act v (mv u x) := fun x => by
    have := e x
    unfold mv at this ⊢
    omega
  refine PF.of_sum g (fun x => ?_) ?_ fun x => ?_
  · rw [ea, ea, h.per, h.mvper, h'.per]
  · rw [sm_congr (g := fun i => act u i + act v (mv u i)) fun i _ => ea i, sm_plus, sm_mv h.good (by decide) h.per _ h'.per, h.sum, h'.sum, Int.mul_add]
  · have := h.bd x
    have := h'.bd (mv u x)
    rw [ea]; omega
theorem PF.invs {u : List Int} {F B : Int} (h : PF u F B) : PF (invT u) (-F) B := by
  have g := h.good
  have ea : ∀ x, act (invT u) x = inv u x - x := fun x => by
    have := invT_mv g x
    unfold mv at this
    omega
  have eb : ∀ x, act (invT u) (mv u x) = -act u x := fun x => by
    rw [ea, inv_mv g]; unfold mv; omega
  have ip : PerF (act (invT u)) (2520 : Nat) := fun x => by
    rw [ea, ea]
    have : inv u (x + (2520 : Nat)) = inv u x + (2520 : Nat) := inv_eq g (by rw [h.mvper, mv_inv g])
    rw [this]; omega
  refine PF.of_sum (invT_good g) ip ?_ fun x => ?_
  · rw [← sm_mv g (by decide) h.per _ ip, sm_congr (g := fun i => (-1) * act u i) fun i _ => by rw [eb]; omega, sm_times, h.sum]; omega
  · have e : act (invT u) x = -act u (inv u x) := by rw [← eb, mv_inv g]
    have := h.bd (inv u x)
    rw [e]; omega
theorem PF.ren {t b w : List Int} {F B F' B' : Int} (h : PF t F B) (h' : PF b F' B') (g : Good w) (e : ∀ x, mv w x = mv b (mv t (inv b x))) : PF w F (B + 2 * B') := by
  have gb := h'.good
  have ea : ∀ y, act w (mv b y) = act b (mv t y) + act t y - act b y := fun y => by
    have := e (mv b y)
    rw [inv_mv gb] at this
    unfold mv at this ⊢
    omega
  have ip : PerF (act w) (2520 : Nat) := fun x => by
    have q : inv b (x + (2520 : Nat)) = inv b x + (2520 : Nat) := inv_eq gb (by rw [h'.mvper, mv_inv gb])
    have e1 := e x
    have e2 := e (x + (2520 : Nat))
    rw [q, h.mvper, h'.mvper] at e2
    rw [show mv w (x + (2520 : Nat)) = x + (2520 : Nat) + act w (x + (2520 : Nat)) from rfl] at e2
    rw [show mv w x = x + act w x from rfl] at e1
    omega
  refine PF.of_sum g ip ?_ fun x => ?_
  · rw [← sm_mv gb (by decide) h'.per _ ip, sm_congr (g := fun i => (act b (mv t i) + act t i) - act b i) fun i _ => ea i, sm_minus, sm_plus, sm_mv h.good (by decide) h.per _ h'.per, h.sum]; omega
  · have q := ea (inv b x)
    rw [mv_inv gb] at q
    have := h'.bd (mv t (inv b x))
    have := h.bd (inv b x)
    have := h'.bd (inv b x)
    rw [q]; omega
theorem PF.id : PF [0] 0 0 := by
  have a : ∀ x, act [0] x = 0 := fun x => by have := mv_id x; unfold mv at this; omega
  exact PF.of_sum good_id (fun x => by rw [a, a]) (by rw [sm_congr (g := fun _ => 0) fun i _ => a i, sm_const]; rfl) fun x => by rw [a]; omega
theorem pow_flw {t : List Int} {F B : Int} (h : PF t F B) (k : Int) : flw (powT t (k + 1)) = flw (powT t k) + F := by
  have g := h.good
  have pp : ∀ n, PerF (act (powT t n)) (2520 : Nat) := fun n x => by
    have e1 := powT_mv g n x
    have e2 := powT_mv g n (x + (2520 : Nat))
    have e3 : pwr t n (x + (2520 : Nat)) = pwr t n x + (2520 : Nat) := by
      symm
      exact pwr_uniq g (x := x + (2520 : Nat)) (g := fun n => pwr t n x + (2520 : Nat)) (by simp [pwr_zero]) (fun n => by rw [pwr_succ g, h.mvper]) n
    unfold mv at e1 e2
    omega
  have f1 := flw_per (powT_good g (k + 1)) (n := 2520) (by decide) (pp _)
  have f2 := flw_per (powT_good g k) (n := 2520) (by decide) (pp _)
  have e : sm (act (powT t (k + 1))) 2520 = sm (fun i => act (powT t k) i + act t (mv (powT t k) i)) 2520 := sm_congr fun i _ => by
    have e1 := powT_mv g (k + 1) i
    have e2 := powT_mv g k i
    rw [pwr_succ g, ← e2] at e1
    unfold mv at e1 ⊢
    omega
  rw [e, sm_plus, sm_mv (powT_good g k) (by decide) (pp k) _ h.per, h.sum, f2] at f1
  omega
theorem PF.pow {t : List Int} {F B : Int} (h : PF t F B) (hB : 0 ≤ B) (k : Int) : PF (powT t k) (k * F) (k.natAbs * B) := by
  have g := h.good
  have key : ∀ n : Nat, flw (powT t n) = n * F ∧ flw (powT t (-n)) = -n * F := by
    intro n
    induction n with
    | zero =>
      have : powT t 0 = tabOf t.length fun _ => 0 := by unfold powT; apply tabOf_eq; intro i _; rw [pwr_zero]; omega
      have z : flw (powT t 0) = 0 := by
        refine flw_of (powT_good g 0).pos ?_
        rw [this, tabOf_sum, sm_const]; simp
      constructor
      · rw [show ((0 : Nat) : Int) = 0 from rfl, z]; omega
      · rw [show -((0 : Nat) : Int) = 0 from rfl, z]; omega
    | succ n ih =>
      constructor
      · rw [Int.natCast_succ, pow_flw h, ih.1, Int.add_mul]; omega
      · have := pow_flw h (-((n + 1 : Nat) : Int))
        rw [show -((n + 1 : Nat) : Int) + 1 = -(n : Int) by omega, ih.2] at this
        have q : -((n + 1 : Nat) : Int) * F = -(n : Int) * F - F := by rw [Int.natCast_succ, Int.neg_add, Int.add_mul]; omega
        omega
  have far : ∀ (n : Nat) (x : Int), (-(n * B) ≤ pwr t n x - x ∧ pwr t n x - x ≤ n * B) ∧ (-(n * B) ≤ pwr t (-n) x - x ∧ pwr t (-n) x - x ≤ n * B) := by
    intro n
    induction n with
    | zero => intro x; rw [show ((0 : Nat) : Int) = 0 from rfl, show (-0 : Int) = 0 from rfl, pwr_zero]; omega
    | succ n ih =>
      intro x
      have q : ((n + 1 : Nat) : Int) * B = n * B + B := by rw [Int.natCast_succ, Int.add_mul, Int.one_mul]
      constructor
      · rw [Int.natCast_succ, pwr_succ g, ← Int.natCast_succ, q]
        have := (ih x).1
        have := h.bd (pwr t n x)
        unfold mv
        omega
      · have e := pwr_succ g (-((n + 1 : Nat) : Int)) x
        rw [show -((n + 1 : Nat) : Int) + 1 = -(n : Int) by omega] at e
        have := (ih x).2
        have := h.bd (pwr t (-((n + 1 : Nat) : Int)) x)
        unfold mv at e
        rw [q]
        omega
  have pp : PerF (act (powT t k)) (2520 : Nat) := fun x => by
    have e1 := powT_mv g k x
    have e2 := powT_mv g k (x + (2520 : Nat))
    have e3 : pwr t k (x + (2520 : Nat)) = pwr t k x + (2520 : Nat) := by
      symm
      exact pwr_uniq g (x := x + (2520 : Nat)) (g := fun n => pwr t n x + (2520 : Nat)) (by simp [pwr_zero]) (fun n => by rw [pwr_succ g, h.mvper]) k
    unfold mv at e1 e2
    omega
  refine ⟨powT_good g k, ?_, fun x => ?_, pp⟩
  · rcases Int.natAbs_eq k with e | e
    · rw [e]; exact (key _).1
    · rw [e]; exact (key _).2
  · have e1 := powT_mv g k x
    unfold mv at e1
    generalize hm : k.natAbs = m at *
    have f1 := (far m x).1
    have f2 := (far m x).2
    rcases (show k = (m : Int) ∨ k = -(m : Int) by omega) with e | e
    · have e2 : pwr t (m : Int) x = pwr t k x := by rw [e]
      rw [e2] at f1; omega
    · have e2 : pwr t (-(m : Int)) x = pwr t k x := by rw [e]
      rw [e2] at f2; omega
end TS

set_option maxRecDepth 100000
set_option maxHeartbeats 4000000
/-! TSU: steps through mirrors (the words mi, st, sl, se, sf, sa of the parts are written out by law.py) -/
namespace TS
open PySem L2
theorem for_st {fi : FA} {tg : R → Sl → SR} {body : FS} {δ δ1 : Sl} {ds : List D} {s : SR} (h1 : fi δ = .ok ds δ1) (h2 : forL tg body ds δ1 = s) : sFor fi tg body δ = s := by
  rw [ap_sFor, h1, Res.bindS_ok, h2]
theorem asg_own {f : FE} {i : Nat} {δ δ1 : Sl} {o : OB} (h1 : f δ = .ok (.own o) δ1) : sAsg f (tName i) δ = .nx (δ1.set i (some (.own o))) := by
  rw [ap_sAsg, h1, Res.bindS_ok, ap_tNameO]
theorem asg_imm {f : FE} {i : Nat} {δ δ1 : Sl} {d : D} (h1 : f δ = .ok (.imm d) δ1) : sAsg f (tName i) δ = .nx (δ1.set i (some (.imm d))) := by
  rw [ap_sAsg, h1, Res.bindS_ok, ap_tNameI]
end TS

set_option maxRecDepth 100000
set_option maxHeartbeats 4000000
/-! TSV: repeated tables, exchanged pairs -/
namespace TS
open PySem L2
def repT (k : Nat) (t : List Int) : List Int := (List.replicate k t).flatten
theorem repT_len (k : Nat) (t : List Int) : (repT k t).length = k * t.length := by simp [repT]
theorem repT_act {k : Nat} {t : List Int} (hk : 0 < k) (ht : 0 < t.length) : act (repT k t) = act t := by
  funext x
  unfold act
  have hl := repT_len k t
  have hp : 0 < k * t.length := Nat.mul_pos hk ht
  have b0 := Int.emod_nonneg x (show ((repT k t).length : Int) ≠ 0 by omega)
  have b1 := Int.emod_lt_of_pos x (show 0 < ((repT k t).length : Int) by omega)
  unfold repT at *
  rw [rep_get t k _ (by omega)]
  congr 1
  rw [hl] at *
  have e : (x % ((k * t.length : Nat) : Int)) % (t.length : Int) = x % (t.length : Int) := Int.emod_emod_of_dvd x ⟨(k : Int), by rw [Int.natCast_mul, Int.mul_comm]⟩
  have c0 := Int.emod_nonneg x (show (t.length : Int) ≠ 0 by omega)
  obtain ⟨m, hm⟩ := Int.eq_ofNat_of_zero_le b0
  rw [hm] at e ⊢
  rw [← e]
  rfl
theorem repT_good {k : Nat} {t : List Int} (hk : 0 < k) (h : Good t) (hl : k * t.length ≤ 2520) : Good (repT k t) :=
  good_act (by rw [repT_len]; exact Nat.mul_pos hk h.pos) (by rw [repT_len]; exact hl) h (repT_act hk h.pos)
/-! pairs that are exchanged -/
def swT (n : Nat) : List (Int × Int) → List Int → List Int
  | [], t => t
  | p :: ps, t => swT n ps ((t.set (p.1 % n).toNat (p.2 - p.1)).set (p.2 % n).toNat (p.1 - p.2))
def rmN (n : Nat) (p : Int × Int) : List Nat := [(p.1 % n).toNat, (p.2 % n).toNat]
def rmL (n : Nat) (ps : List (Int × Int)) : List Nat := ps.flatMap (rmN n)
theorem swT_len (n : Nat) : ∀ (ps : List (Int × Int)) (t : List Int), (swT n ps t).length = t.length
  | [], t => rfl
  | p :: ps, t => by rw [swT, swT_len n ps]; simp
theorem swT_app (n : Nat) : ∀ (ps qs : List (Int × Int)) (t : List Int), swT n (ps ++ qs) t = swT n qs (swT n ps t)
  | [], qs, t => rfl
  | p :: ps, qs, t => by rw [List.cons_append, swT, swT, swT_app n ps qs]
theorem swT_off (n : Nat) : ∀ (ps : List (Int × Int)) (t : List Int) (j : Nat), j ∉ rmL n ps → (swT n ps t)[j]? = t[j]?
  | [], t, j, _ => rfl
  | p :: ps, t, j, h => by
    have h' : j ≠ (p.1 % n).toNat ∧ j ≠ (p.2 % n).toNat ∧ j ∉ rmL n ps := by
      simp only [rmL, rmN, List.flatMap_cons, List.mem_append, List.mem_cons, List.mem_nil_iff, or_false] at h
      exact ⟨fun z => h (.inl (.inl z)), fun z => h (.inl (.inr z)), fun z => h (.inr z)⟩
    rw [swT, swT_off n ps _ j h'.2.2, List.getElem?_set_ne (Ne.symm h'.2.1), List.getElem?_set_ne (Ne.symm h'.1)]
theorem swT_on (n : Nat) : ∀ (ps : List (Int × Int)) (t : List Int), t.length = n → 0 < n → (rmL n ps).Nodup → ∀ p ∈ ps, (swT n ps t)[(p.1 % n).toNat]? = some (p.2 - p.1) ∧ (swT n ps t)[(p.2 % n).toNat]? = some (p.1 - p.2)
  | [], t, _, _, _, p, hp => by cases hp
  | q :: ps, t, hl, h0, hn, p, hp => by
    have hn' : (q.1 % n).toNat ≠ (q.2 % n).toNat ∧ ((q.1 % n).toNat ∉ rmL n ps) ∧ ((q.2 % n).toNat ∉ rmL n ps) ∧ (rmL n ps).Nodup := by
      unfold rmL at hn ⊢
      simp only [rmN, List.flatMap_cons, List.cons_append, List.nil_append, List.nodup_cons, List.mem_cons, not_or] at hn
      exact ⟨hn.1.1, hn.1.2, hn.2.1, hn.2.2⟩
    obtain ⟨k1, k2, k3, k4⟩ := hn'
    have b : ∀ x : Int, (x % n).toNat < n := fun x => by
      have b0 := Int.emod_nonneg x (show (n : Int) ≠ 0 by omega)
      have b1 := Int.emod_lt_of_pos x (show 0 < (n : Int) by omega)
      omega
    rcases List.mem_cons.mp hp with rfl | hp
    · rw [swT, swT_off n ps _ _ k2, swT_off n ps _ _ k3]
      rw [List.getElem?_set_ne (Ne.symm k1), List.getElem?_set_self (by rw [hl]; exact b _), List.getElem?_set_self (by rw [List.length_set, hl]; exact b _)]
      exact ⟨rfl, rfl⟩
    · exact swT_on n ps _ (by simp [hl]) h0 k4 p hp
def zeroT (n : Nat) : List Int := List.replicate n 0
def swapT (n : Nat) (ps : List (Int × Int)) : List Int := swT n ps (zeroT n)
theorem swapT_len (n : Nat) (ps : List (Int × Int)) : (swapT n ps).length = n := by simp [swapT, swT_len, zeroT]
theorem swap_act {n : Nat} (h0 : 0 < n) {ps : List (Int × Int)} (hn : (rmL n ps).Nodup) {p : Int × Int} (hp : p ∈ ps) : (∀ x : Int, x % n = p.1 % n → act (swapT n ps) x = p.2 - p.1) ∧ ∀ x : Int, x % n = p.2 % n → act (swapT n ps) x = p.1 - p.2 := by
  obtain ⟨h1, h2⟩ := swT_on n ps (zeroT n) (by simp [zeroT]) h0 hn p hp
  have hl := swapT_len n ps
  constructor <;> intro x hx <;> unfold act <;> rw [hl, hx, List.getD_eq_getElem?_getD]
  · show ((swT n ps (zeroT n))[_]?).getD 0 = _; rw [h1]; rfl
  · show ((swT n ps (zeroT n))[_]?).getD 0 = _; rw [h2]; rfl
theorem swap_off {n : Nat} (h0 : 0 < n) {ps : List (Int × Int)} {x : Int} (hx : (x % n).toNat ∉ rmL n ps) : act (swapT n ps) x = 0 := by
  unfold act
  rw [swapT_len, List.getD_eq_getElem?_getD]
  show ((swT n ps (zeroT n))[_]?).getD 0 = _
  rw [swT_off n ps _ _ hx, zeroT]
  rw [List.getElem?_replicate]
  split <;> rfl
theorem rmL_mem {n : Nat} (h0 : 0 < n) {ps : List (Int × Int)} {x : Int} (hx : (x % n).toNat ∈ rmL n ps) : ∃ p ∈ ps, x % n = p.1 % n ∨ x % n = p.2 % n := by
  unfold rmL at hx
  obtain ⟨p, hp, hm⟩ := List.mem_flatMap.mp hx
  have b := fun y : Int => Int.emod_nonneg y (show (n : Int) ≠ 0 by omega)
  have := b x
  have := b p.1
  have := b p.2
  simp only [rmN, List.mem_cons, List.mem_nil_iff, or_false] at hm
  exact ⟨p, hp, by omega⟩
theorem swap_inv {n : Nat} (h0 : 0 < n) {ps : List (Int × Int)} (hn : (rmL n ps).Nodup) (x : Int) : mv (swapT n ps) (mv (swapT n ps) x) = x := by
  by_cases hx : (x % n).toNat ∈ rmL n ps
  · obtain ⟨p, hp, e⟩ := rmL_mem h0 hx
    obtain ⟨a1, a2⟩ := swap_act h0 hn hp
    rcases e with e | e
    · have e1 : mv (swapT n ps) x = x + (p.2 - p.1) := by unfold mv; rw [a1 x e]
      have e2 : (x + (p.2 - p.1)) % n = p.2 % n := by
        rw [show x + (p.2 - p.1) = p.2 + (x - p.1) by omega, Int.add_emod, Int.emod_eq_emod_iff_emod_sub_eq_zero.mp e, Int.add_zero, Int.emod_emod]
      rw [e1]
      unfold mv
      rw [a2 _ e2]
      omega
    · have e1 : mv (swapT n ps) x = x + (p.1 - p.2) := by unfold mv; rw [a2 x e]
      have e2 : (x + (p.1 - p.2)) % n = p.1 % n := by
        rw [show x + (p.1 - p.2) = p.1 + (x - p.2) by omega, Int.add_emod, Int.emod_eq_emod_iff_emod_sub_eq_zero.mp e, Int.add_zero, Int.emod_emod]
      rw [e1]
      unfold mv
      rw [a1 _ e2]
      omega
  · have e1 : mv (swapT n ps) x = x := by unfold mv; rw [swap_off h0 hx]; omega
    rw [e1, e1]
theorem swap_good {n : Nat} (h0 : 0 < n) (h1 : n ≤ 2520) {ps : List (Int × Int)} (hn : (rmL n ps).Nodup) : Good (swapT n ps) :=
  ⟨by rw [swapT_len]; exact h0, by rw [swapT_len]; exact h1, fun x y e => by rw [← swap_inv h0 hn x, e, swap_inv h0 hn y]⟩
theorem sum_set : ∀ (t : List Int) (i : Nat) (v : Int), i < t.length → (t.set i v).sum = t.sum - t.getD i 0 + v
  | [], i, v, h => by cases h
  | x :: t, 0, v, _ => by simp; omega
  | x :: t, i + 1, v, h => by
    have := sum_set t i v (by simpa using h)
    simp only [List.set_cons_succ, List.sum_cons, List.getD_cons_succ]
    omega
theorem swT_sum (n : Nat) (h0 : 0 < n) : ∀ (ps : List (Int × Int)) (t : List Int), t.length = n → (rmL n ps).Nodup → (∀ j ∈ rmL n ps, t.getD j 0 = 0) → (swT n ps t).sum = t.sum
  | [], t, _, _, _ => rfl
  | q :: ps, t, hl, hn, hz => by
    have hn' : (q.1 % n).toNat ≠ (q.2 % n).toNat ∧ ((q.1 % n).toNat ∉ rmL n ps) ∧ ((q.2 % n).toNat ∉ rmL n ps) ∧ (rmL n ps).Nodup := by
      unfold rmL at hn ⊢
      simp only [rmN, List.flatMap_cons, List.cons_append, List.nil_append, List.nodup_cons, List.mem_cons, not_or] at hn
      exact ⟨hn.1.1, hn.1.2, hn.2.1, hn.2.2⟩
    obtain ⟨k1, k2, k3, k4⟩ := hn'
    have b : ∀ x : Int, (x % n).toNat < n := fun x => by
      have b0 := Int.emod_nonneg x (show (n : Int) ≠ 0 by omega)
      have b1 := Int.emod_lt_of_pos x (show 0 < (n : Int) by omega)
      omega
    have z1 := hz (q.1 % n).toNat (by simp [rmL, rmN])
    have z2 := hz (q.2 % n).toNat (by simp [rmL, rmN])
    rw [swT, swT_sum n h0 ps _ (by simp [hl]) k4 (fun j hj => ?_), sum_set _ _ _ (by rw [List.length_set, hl]; exact b _), sum_set _ _ _ (by rw [hl]; exact b _)]
    · have e : (t.set (q.1 % n).toNat (q.2 - q.1)).getD (q.2 % n).toNat 0 = 0 := by
        rw [List.getD_eq_getElem?_getD, List.getElem?_set_ne k1, ← List.getD_eq_getElem?_getD]; exact z2
      rw [e, z1]; omega
    · have j1 : j ≠ (q.1 % n).toNat := fun z => k2 (z ▸ hj)
      have j2 : j ≠ (q.2 % n).toNat := fun z => k3 (z ▸ hj)
      rw [List.getD_eq_getElem?_getD, List.getElem?_set_ne (Ne.symm j2), List.getElem?_set_ne (Ne.symm j1), ← List.getD_eq_getElem?_getD]
      exact hz j (by unfold rmL at hj ⊢; rw [List.flatMap_cons, List.mem_append]; exact .inr hj)
theorem swap_flw {n : Nat} (h0 : 0 < n) {ps : List (Int × Int)} (hn : (rmL n ps).Nodup) : flw (swapT n ps) = 0 := by
  refine flw_of (by rw [swapT_len]; exact h0) ?_
  unfold swapT
  rw [swT_sum n h0 ps _ (by simp [zeroT]) hn (fun j _ => ?_), Int.mul_zero]
  · unfold zeroT; simp
  · unfold zeroT; rw [List.getD_eq_getElem?_getD, List.getElem?_replicate]; split <;> rfl
end TS

set_option maxRecDepth 100000
set_option maxHeartbeats 4000000
/-! TSW: tables from mixed goals; laps -/
namespace TS
open PySem L2
noncomputable section
@[simp] theorem ap_fLenSet (f : FD) (δ : Sl) : fLenSet f δ = (f δ).bind fun d δ => match d with
  | .lst ds => (match intsD ds with
    | some ns => if ns.length ≤ 4000 then .ok (.int (ns.eraseDups.length : Nat)) δ else .bad
    | none => .bad)
  | _ => .bad := id rfl
@[simp] theorem ap_fxNil (δ : Sl) : fxNil δ = .ok [] δ := id rfl
@[simp] theorem ap_fxCons (f : FE) (g : FX) (δ : Sl) : fxCons f g δ = (f δ).bind fun r δ1 => match r with
  | .brw _ => .bad
  | r => (g δ1).bind fun rs δ2 => .ok (r :: rs) δ2 := id rfl
@[simp] theorem ap_sPar2E (i j : Nat) (f : FX) (δ : Sl) : sPar2E i j f δ = (f δ).bindS fun rs δ1 => match rs with
  | [a, b] => if i < δ1.length then .nx ((δ1.set i (some a)).set j (some b)) else .bad
  | _ => .bad := id rfl
@[simp] theorem ap_sPar3E (i j l : Nat) (f : FX) (δ : Sl) : sPar3E i j l f δ = (f δ).bindS fun rs δ1 => match rs with
  | [a, b, c] => if i < δ1.length ∧ j < δ1.length then .nx (((δ1.set i (some a)).set j (some b)).set l (some c)) else .bad
  | _ => .bad := id rfl
theorem nats_at {n j : Nat} (h : j < n) : (nats 0 n)[j]? = some (j : Int) := by simp [nats, h]
theorem nats_pre {n : Nat} {pre post : List Int} {x : Int} (e : nats 0 n = pre ++ x :: post) : x = (pre.length : Int) ∧ pre.length < n := by
  have h := pre_get e
  have hl : pre.length < (nats 0 n).length := (List.getElem?_eq_some_iff.mp h).1
  rw [nats_len] at hl
  rw [nats_at hl] at h
  exact ⟨(Option.some.inj h).symm, hl⟩
theorem nats_mem {n : Nat} {x : Int} (h : x ∈ nats 0 n) : 0 ≤ x ∧ x < n := by
  simp [nats] at h
  obtain ⟨a, ha, rfl⟩ := h
  omega
theorem nats_nodup (n : Nat) : (nats 0 n).Nodup := by
  rw [nodup_iff]
  intro i j hij hj e
  rw [nats_len] at hj
  rw [nats_at hj, nats_at (show i < n by omega)] at e
  have := Option.some.inj e
  omega
/-- a table of mixed goals, moved by multiples of the period -/
theorem good_goals {goals t : List Int} {n : Nat} (h0 : 0 < n) (h1 : n ≤ 2520) (q : goals.Perm (nats 0 n)) (l : t.length = n) (r : ∀ j : Nat, j < t.length → ∃ g u : Int, goals[j]? = some g ∧ t[j]? = some (g - j + n * u)) : Good t := by
  have hgl : goals.length = n := by rw [q.length_eq, nats_len]
  have hgb : ∀ g ∈ goals, 0 ≤ g ∧ g < n := fun g hg => nats_mem (q.mem_iff.mp hg)
  have hgn : goals.Nodup := (List.Perm.nodup_iff q).mpr (nats_nodup n)
  refine good_of_rems (by omega) (by omega) ?_
  have : rems t.length 0 t = goals := by
    apply List.ext_getElem?
    intro j
    rw [rems_get]
    by_cases hj : j < t.length
    · obtain ⟨g, u, h1, h5⟩ := r j hj
      rw [h5, h1]
      simp only [Option.map_some, Option.some.injEq, Nat.zero_add]
      obtain ⟨g0, g1⟩ := hgb g (List.mem_of_getElem? h1)
      rw [l, show (j : Int) + (g - j + n * u) = g + n * u by omega, Int.add_mul_emod_self_left, Int.emod_eq_of_lt g0 g1]
    · rw [List.getElem?_eq_none (by omega), List.getElem?_eq_none (by omega)]; rfl
  rw [this]; exact hgn
/-- offsets moved by multiples of the length -/
theorem good_mult {t u : List Int} (h : Good t) (l : u.length = t.length) (r : ∀ j : Nat, j < u.length → ∃ k : Int, u[j]? = some (act t j + t.length * k)) : Good u := by
  have hp := h.pos
  refine good_of_rems (by omega) (by have := h.len; omega) ?_
  have : rems u.length 0 u = rems t.length 0 t := by
    apply List.ext_getElem?
    intro j
    rw [rems_get, rems_get]
    by_cases hj : j < u.length
    · obtain ⟨k, e⟩ := r j hj
      rw [e, act_get' (show j < t.length by omega), l]
      simp only [Option.map_some, Option.some.injEq, Nat.zero_add]
      rw [← Int.add_assoc, Int.add_mul_emod_self_left]
    · rw [List.getElem?_eq_none (by omega), List.getElem?_eq_none (by omega)]; rfl
  rw [this]; exact h.rems
theorem nodup_swap {l : List Int} (h : l.Nodup) {a b : Nat} (ha : a < l.length) (hb : b < l.length) : ((l.set a l[b]).set b l[a]).Nodup := by
  have inj : ∀ i j, i < l.length → j < l.length → l[i]? = l[j]? → i = j := fun i j hi hj e => by
    rw [nodup_iff] at h
    rcases Nat.lt_trichotomy i j with z | z | z
    · exact absurd e (h i j z hj)
    · exact z
    · exact absurd e.symm (h j i z hi)
  have get : ∀ i, i < l.length → ∃ k, k < l.length ∧ ((l.set a l[b]).set b l[a])[i]? = l[k]? ∧ (k = if i = b then a else if i = a then b else i) := fun i hi => by
    by_cases h1 : i = b
    · subst h1
      exact ⟨a, ha, by rw [List.getElem?_set_self (by simpa using hi), List.getElem?_eq_getElem ha], by simp⟩
    · by_cases h2 : i = a
      · subst h2
        exact ⟨b, hb, by rw [List.getElem?_set_ne (Ne.symm h1), List.getElem?_set_self hi, List.getElem?_eq_getElem hb], by simp [h1]⟩
      · exact ⟨i, hi, by rw [List.getElem?_set_ne (Ne.symm h1), List.getElem?_set_ne (Ne.symm h2)], by simp [h1, h2]⟩
  rw [nodup_iff]
  intro i j hij hj e
  rw [List.length_set, List.length_set] at hj
  obtain ⟨k, k1, k2, k3⟩ := get i (by omega)
  obtain ⟨m, m1, m2, m3⟩ := get j hj
  rw [k2, m2] at e
  have := inj k m k1 m1 e
  subst this
  rw [k3] at m3
  repeat' split at m3
  all_goals omega
/-- the goals of two places exchanged -/
def exT (t : List Int) (a b : Nat) : List Int := (t.set a (mv t b - a)).set b (mv t a - b)
theorem exT_len (t : List Int) (a b : Nat) : (exT t a b).length = t.length := by simp [exT]
theorem exT_good {t : List Int} (h : Good t) {a b : Nat} (ha : a < t.length) (hb : b < t.length) : Good (exT t a b) := by
  have hl := exT_len t a b
  have hr := rems_len t.length t 0
  refine good_of_rems (by omega) (by have := h.len; omega) ?_
  have e : rems (exT t a b).length 0 (exT t a b) = ((rems t.length 0 t).set a (rems t.length 0 t)[b]).set b (rems t.length 0 t)[a] := by
    have g : ∀ j (hj : j < t.length), (rems t.length 0 t)[j]'(by omega) = mv t j % t.length := fun j hj => by
      have := rems_get t.length t 0 j
      rw [List.getElem?_eq_getElem (by omega), act_get' hj] at this
      have := Option.some.inj this
      rw [this]
      unfold mv
      rw [Nat.zero_add]
    apply List.ext_getElem?
    intro j
    rw [rems_get, hl]
    by_cases h1 : j = b
    · subst h1
      rw [List.getElem?_set_self (by simp; omega), g a ha]
      unfold exT
      rw [List.getElem?_set_self (by simpa using hb)]
      simp only [Option.map_some, Option.some.injEq, Nat.zero_add]
      congr 1; omega
    · rw [List.getElem?_set_ne (Ne.symm h1)]
      unfold exT
      rw [List.getElem?_set_ne (Ne.symm h1)]
      by_cases h2 : j = a
      · subst h2
        rw [List.getElem?_set_self (by omega), List.getElem?_set_self (by omega), g b hb]
        simp only [Option.map_some, Option.some.injEq, Nat.zero_add]
        congr 1; omega
      · rw [List.getElem?_set_ne (Ne.symm h2), List.getElem?_set_ne (Ne.symm h2), rems_get]
  rw [e]
  exact nodup_swap h.rems (by omega) (by omega)
/-! laps -/
theorem act_bd {t : List Int} (h0 : 0 < t.length) {B : Int} (h : ∀ x ∈ t, -B < x ∧ x < B) (x : Int) : -B < act t x ∧ act t x < B := by
  have b0 := Int.emod_nonneg x (show (t.length : Int) ≠ 0 by omega)
  have b1 := Int.emod_lt_of_pos x (show 0 < (t.length : Int) by omega)
  have hi : (x % (t.length : Int)).toNat < t.length := by omega
  unfold act
  rw [List.getD_eq_getElem?_getD, List.getElem?_eq_getElem hi]
  exact h _ (List.getElem_mem hi)
theorem pwr_nat (t : List Int) (k : Nat) (x : Int) : pwr t (k : Int) x = itr (mv t) k x := by
  unfold pwr
  rw [if_pos (by omega)]
  rfl
theorem pwr_succN (t : List Int) (k : Nat) (x : Int) : pwr t ((k + 1 : Nat) : Int) x = mv t (pwr t (k : Int) x) := by
  rw [pwr_nat, pwr_nat]
  rfl
theorem pwr_bd {t : List Int} {B : Int} (hb : ∀ x, -B < act t x ∧ act t x < B) (x : Int) : ∀ k : Nat, -(k * B) ≤ pwr t (k : Int) x - x ∧ pwr t (k : Int) x - x ≤ k * B
  | 0 => by simp [pwr_zero]
  | k + 1 => by
    have ih := pwr_bd hb x k
    have := hb (pwr t (k : Int) x)
    rw [pwr_succN]
    unfold mv
    rw [Int.natCast_succ, Int.add_mul, Int.one_mul]
    omega
theorem lap_ex {t : List Int} (h : Good t) (x : Int) : ∃ m : Nat, 0 < m ∧ m ≤ t.length ∧ (pwr t (m : Int) x - x) % t.length = 0 := by
  have hp := h.pos
  have hlt : ∀ y : Int, (y % (t.length : Int)).toNat < t.length := fun y => by
    have b0 := Int.emod_nonneg y (show (t.length : Int) ≠ 0 by omega)
    have b1 := Int.emod_lt_of_pos y (show 0 < (t.length : Int) by omega)
    omega
  have hn : ¬ ((List.range (t.length + 1)).map fun i : Nat => (pwr t (i : Int) x % (t.length : Int)).toNat).Nodup := fun hn => by
    have := nd_le t.length _ hn (fun y hy => by
      obtain ⟨i, _, rfl⟩ := List.mem_map.mp hy
      exact hlt _)
    rw [List.length_map, List.length_range] at this
    omega
  rw [nodup_iff] at hn
  simp only [Classical.not_forall, Classical.not_not, List.length_map, List.length_range] at hn
  obtain ⟨i, j, hij, hj, e⟩ := hn
  rw [List.getElem?_map, List.getElem?_map, List.getElem?_range hj, List.getElem?_range (show i < t.length + 1 by omega)] at e
  have e : (pwr t (i : Int) x % (t.length : Int)).toNat = (pwr t (j : Int) x % (t.length : Int)).toNat := Option.some.inj e
  refine ⟨j - i, by omega, by omega, ?_⟩
  have b0 := Int.emod_nonneg (pwr t (i : Int) x) (show (t.length : Int) ≠ 0 by omega)
  have c0 := Int.emod_nonneg (pwr t (j : Int) x) (show (t.length : Int) ≠ 0 by omega)
  have e1 : pwr t (i : Int) x % (t.length : Int) = pwr t (j : Int) x % (t.length : Int) := by omega
  have ej : pwr t (j : Int) x = pwr t (i : Int) (pwr t ((j - i : Nat) : Int) x) := by
    rw [← pwr_add h, show ((j - i : Nat) : Int) + (i : Int) = (j : Int) by omega]
  have d : pwr t (j : Int) x = pwr t (i : Int) x + (pwr t (j : Int) x / t.length - pwr t (i : Int) x / t.length) * t.length := by
    have h1 := Int.emod_add_mul_ediv (pwr t (j : Int) x) t.length
    have h2 := Int.emod_add_mul_ediv (pwr t (i : Int) x) t.length
    rw [Int.sub_mul, Int.mul_comm _ (t.length : Int), Int.mul_comm _ (t.length : Int)]
    omega
  rw [ej] at d
  generalize hq : (pwr t (i : Int) (pwr t ((j - i : Nat) : Int) x) / (t.length : Int) - pwr t (i : Int) x / (t.length : Int)) = q at d
  rw [← pwr_perk h] at d
  have := pwr_inj h _ _ _ d
  rw [this, show x + q * t.length - x = q * t.length by omega, Int.mul_emod_left]
/-- the lap of a place: the least number of moves to a place with the same remainder -/
structure IsLap (t : List Int) (x : Int) (m : Nat) : Prop where
  pos : 0 < m
  le : m ≤ t.length
  dv : (pwr t (m : Int) x - x) % t.length = 0
  min : ∀ j : Nat, 0 < j → j < m → (pwr t (j : Int) x - x) % t.length ≠ 0
theorem pwr_lapN {t : List Int} (h : Good t) {m : Nat} {x q : Int} (e : pwr t (m : Int) x = x + q * t.length) : ∀ j : Nat, pwr t ((j : Int) * m) x = x + j * q * t.length
  | 0 => by simp [pwr_zero]
  | j + 1 => by
    rw [Int.natCast_succ, Int.add_mul, Int.one_mul, pwr_add h, pwr_lapN h e j, pwr_perk h, e, Int.add_mul, Int.one_mul, Int.add_mul]
    omega
theorem pwr_lapM {t : List Int} (h : Good t) {m : Nat} {x q : Int} (e : pwr t (m : Int) x = x + q * t.length) : ∀ j : Nat, pwr t (-(j : Int) * m) x = x + -(j : Int) * q * t.length
  | 0 => by simp [pwr_zero]
  | j + 1 => by
    have ih := pwr_lapM h e j
    have e2 : -((j + 1 : Nat) : Int) * m + m = -(j : Int) * m := by
      rw [Int.natCast_succ, Int.neg_add, Int.add_mul, Int.neg_mul 1, Int.one_mul]; omega
    rw [← e2, pwr_add h] at ih
    have e3 : x + -(j : Int) * q * t.length = pwr t (m : Int) (x + (-((j + 1 : Nat) : Int) * q) * t.length) := by
      rw [pwr_perk h, e, Int.natCast_succ, Int.neg_add, Int.add_mul, Int.add_mul, Int.neg_mul 1, Int.one_mul, Int.neg_mul q]
      omega
    rw [e3] at ih
    exact pwr_inj h _ _ _ ih
theorem pwr_lap {t : List Int} (h : Good t) {m : Nat} {x q : Int} (e : pwr t (m : Int) x = x + q * t.length) (j : Int) : pwr t (j * m) x = x + j * q * t.length := by
  rcases Int.le_total 0 j with z | z
  · obtain ⟨k, rfl⟩ := Int.eq_ofNat_of_zero_le z
    exact pwr_lapN h e k
  · obtain ⟨k, hk⟩ := Int.eq_ofNat_of_zero_le (show 0 ≤ -j by omega)
    have : j = -(k : Int) := by omega
    subst this
    exact pwr_lapM h e k
theorem IsLap.far {t : List Int} {x : Int} {m : Nat} (l : IsLap t x m) : pwr t (m : Int) x = x + (pwr t (m : Int) x - x) / t.length * t.length := by
  have := Int.ediv_mul_cancel_of_emod_eq_zero l.dv
  omega
theorem IsLap.after {t : List Int} (h : Good t) {x : Int} {m : Nat} (l : IsLap t x m) (k : Int) : pwr t (k % m) (x + k / m * (pwr t (m : Int) x - x)) = pwr t k x := by
  have e1 := pwr_lap h l.far (k / m)
  have e2 : k / m * ((pwr t (m : Int) x - x) / t.length) * t.length = k / m * (pwr t (m : Int) x - x) := by
    rw [Int.mul_assoc, Int.ediv_mul_cancel_of_emod_eq_zero l.dv]
  rw [e2] at e1
  have e3 : k / m * m + k % m = k := by have := Int.mul_ediv_add_emod k m; rw [Int.mul_comm] at this; omega
  rw [← e1, ← pwr_add h, e3]
/-- a law that asks something ahead of its cells -/
theorem law_of2 {c : Int} (hc : 0 ≤ c ∧ c < 100) {A : FS} {F : FD} (ns : List Int) (hA : A [some (.imm (.scr (ns.map D.int))), none] = .nx [some (.imm (.scr (ns.map D.int))), none]) (hF : ∀ a : Nat, a < 100 → F [some (.imm (.scr (ns.map D.int))), some (.imm (.int (a : Int)))] = .ok (.bl true) [some (.imm (.scr (ns.map D.int))), some (.imm (.int (a : Int)))]) : mir 2 1 (sSeq A (lawG c F)) none [.scr (ns.map D.int)] = .ok (.imm (.bl true)) none := by
  have h := law_of hc ns hF
  have s4 : ∀ G : FS, mir 2 1 G none [.scr (ns.map D.int)] = outR none (G [some (.imm (.scr (ns.map D.int))), none]) := fun G => by simp [mir, ini, ioS, ioN]
  rw [s4] at h ⊢
  rw [ap_sSeq, hA, SR.bind_nx]
  exact h
end
end TS

set_option maxRecDepth 100000
set_option maxHeartbeats 4000000
/-! TSX: dicts that are filled; cells by simp -/
namespace TS
open PySem L2
noncomputable section
@[simp] theorem ap_fChain (g g' : D → D → Option R) (fa fb fc : FD) (δ : Sl) : fChain g g' fa fb fc δ = (fa δ).bind fun x δ1 => (fb δ1).bind fun y δ2 => match g x y with
  | some (.imm (.bl true)) => (fc δ2).bind fun w δ3 => (match g' y w with
    | some z => .ok z δ3
    | none => .bad)
  | some (.imm (.bl false)) => .ok (.imm (.bl false)) δ2
  | _ => .bad := id rfl
@[simp] theorem ap_fGet (fo fk fx : FD) (δ : Sl) : fGet fo fk fx δ = (fo δ).bind fun d δ1 => if isDD d then (fk δ1).bind fun k δ2 => (fx δ2).bind fun x δ3 => (match gGet d k x with
  | some z => .ok z δ3
  | none => .bad) else .bad := id rfl
def isI : Option R → Bool
  | none => true
  | some (.imm _) => true
  | _ => false
theorem immS_cons (x : Option R) (l : Sl) : immS (x :: l) = (isI x && immS l) := by
  cases x with
  | none => rfl
  | some r => cases r <;> rfl
theorem immS_nil : immS [] = true := rfl
@[simp] theorem isI_none : isI none = true := rfl
@[simp] theorem isI_imm (d : D) : isI (some (.imm d)) = true := rfl
theorem look_put {κ : Type} [DecidableEq κ] : ∀ {ks : List κ} {ds : List D} (k : κ) (d : D), ks.length = ds.length → (∀ k', lookD (putD ks ds k d).1 (putD ks ds k d).2 k' = if k' = k then some d else lookD ks ds k') ∧ (putD ks ds k d).1.length = (putD ks ds k d).2.length ∧ (putD ks ds k d).2.length ≤ ds.length + 1 := by
  intro ks ds k d hl
  have app : ∀ (ks : List κ) (ds : List D), ks.length = ds.length → (ks.any fun k' => decide (k' = k)) = false → ∀ k', lookD (ks ++ [k]) (ds ++ [d]) k' = if k' = k then some d else lookD ks ds k' := by
    intro ks
    induction ks with
    | nil =>
      intro ds hl _ k'
      cases ds with
      | nil =>
        by_cases z : k = k'
        · subst z; simp [lookD]
        · simp [lookD, z, Ne.symm z]
      | cons d' ds => simp at hl
    | cons a ks ih =>
      intro ds hl ha k'
      cases ds with
      | nil => simp at hl
      | cons d' ds =>
        rw [List.any_cons, Bool.or_eq_false_iff] at ha
        have ih := ih ds (by simpa using hl) ha.2 k'
        have hak : a ≠ k := of_decide_eq_false ha.1
        simp only [List.cons_append, lookD, ih]
        by_cases z : a = k'
        · subst z; simp [hak]
        · simp [z]
  have rep : ∀ (ks : List κ) (ds : List D), ks.length = ds.length → (ks.any fun k' => decide (k' = k)) = true → (∀ k', lookD ks (repD k d ks ds) k' = if k' = k then some d else lookD ks ds k') ∧ (repD k d ks ds).length = ds.length := by
    intro ks
    induction ks with
    | nil => intro ds _ h; simp at h
    | cons a ks ih =>
      intro ds hl ha
      cases ds with
      | nil => simp at hl
      | cons d' ds =>
        by_cases hany : (ks.any fun k' => decide (k' = k)) = true
        · obtain ⟨i1, i2⟩ := ih ds (by simpa using hl) hany
          refine ⟨fun k' => ?_, by simp [repD, i2]⟩
          simp only [repD, lookD, i1]
          by_cases z : a = k'
          · subst z
            by_cases w : a = k
            · simp [w]
            · simp [w]
          · simp [z]
        · have hak : a = k := by
            rw [List.any_cons] at ha
            simp only [Bool.not_eq_true] at hany
            rw [hany, Bool.or_false] at ha
            exact of_decide_eq_true ha
          have same : ∀ (ks : List κ) (ds : List D), ks.length = ds.length → ¬ (ks.any fun k' => decide (k' = k)) = true → repD k d ks ds = ds := by
            intro ks
            induction ks with
            | nil => intro ds _ _; cases ds <;> rfl
            | cons b ks ih2 =>
              intro ds hl hn
              cases ds with
              | nil => simp at hl
              | cons e ds =>
                rw [List.any_cons, Bool.or_eq_true, not_or] at hn
                have hb : b ≠ k := fun z => hn.1 (by simp [z])
                simp only [repD, if_neg hb, ih2 ds (by simpa using hl) hn.2]
          have sm := same ks ds (by simpa using hl) hany
          refine ⟨fun k' => ?_, by simp [repD, sm]⟩
          simp only [repD, sm, if_pos hak, lookD]
          by_cases z : a = k'
          · subst z; simp [hak]
          · have : ¬ k' = k := fun w => z (hak.trans w.symm)
            simp [z, this]
  unfold putD
  by_cases hany : (ks.any fun k' => decide (k' = k)) = true
  · rw [if_pos hany]
    obtain ⟨r1, r2⟩ := rep ks ds hl hany
    exact ⟨r1, by rw [r2]; exact hl, by rw [r2]; omega⟩
  · rw [if_neg hany]
    simp only [Bool.not_eq_true] at hany
    exact ⟨app ks ds hl hany, by simp [hl], by simp⟩
/-! rows -/
def lkR {κ : Type} [DecidableEq κ] (L : List (κ × List D)) (k : κ) : Option (List D) := (L.find? fun x => decide (x.1 = k)).map (·.2)
theorem lkR_look {κ : Type} [DecidableEq κ] : ∀ (L : List (κ × List D)) (k : κ), lookD (L.map (·.1)) (L.map fun x => D.lst x.2) k = (lkR L k).map D.lst
  | [], k => rfl
  | x :: L, k => by
    have ih := lkR_look L k
    unfold lkR at ih ⊢
    simp only [List.map_cons, lookD, List.find?_cons]
    by_cases z : x.1 = k
    · simp [z]
    · simp [z, ih]
/-- the place of a key, or the end -/
theorem row_cases {κ : Type} [DecidableEq κ] (L : List (κ × List D)) (k : κ) : (∃ e x, L.findIdx? (fun x => decide (x.1 = k)) = some e ∧ L[e]? = some x ∧ x.1 = k ∧ lkR L k = some x.2 ∧ ∀ ds k', lkR (L.set e (x.1, ds)) k' = if k' = k then some ds else lkR L k') ∨
    (L.findIdx? (fun x => decide (x.1 = k)) = none ∧ lkR L k = none ∧ ∀ ds k', lkR (L ++ [(k, ds)]) k' = if k' = k then some ds else lkR L k') := by
  induction L with
  | nil =>
    right
    refine ⟨rfl, rfl, fun ds k' => ?_⟩
    by_cases z : k = k'
    · subst z; simp [lkR]
    · simp [lkR, z, Ne.symm z]
  | cons a L ih =>
    by_cases z : a.1 = k
    · left
      refine ⟨0, a, by simp [List.findIdx?_cons, z], rfl, z, by simp [lkR, List.find?_cons, z], fun ds k' => ?_⟩
      by_cases w : k' = k
      · simp [lkR, List.find?_cons, z, w]
      · have w2 : ¬ a.1 = k' := fun q => w (q.symm.trans z)
        have w3 : ¬ k = k' := fun q => w q.symm
        simp [lkR, List.find?_cons, z, w, w2, w3]
    · rcases ih with ⟨e, x, h1, h2, h3, h4, h5⟩ | ⟨h1, h2, h3⟩
      · left
        refine ⟨e + 1, x, ?_, by simpa using h2, h3, ?_, fun ds k' => ?_⟩
        · simp [List.findIdx?_cons, z, h1]
        · unfold lkR at h4 ⊢; simp only [List.find?_cons, decide_eq_false z]; exact h4
        · have := h5 ds k'
          unfold lkR at this ⊢
          simp only [List.set_cons_succ, List.find?_cons]
          by_cases w : a.1 = k'
          · have w2 : ¬ k' = k := fun q => z (w.trans q)
            simp [w, w2]
          · simp only [decide_eq_false w]; exact this
      · right
        refine ⟨by simp [List.findIdx?_cons, z, h1], ?_, fun ds k' => ?_⟩
        · unfold lkR at h2 ⊢; simp only [List.find?_cons, decide_eq_false z]; exact h2
        · have := h3 ds k'
          unfold lkR at this ⊢
          simp only [List.cons_append, List.find?_cons]
          by_cases w : a.1 = k'
          · have w2 : ¬ k' = k := fun q => z (w.trans q)
            simp [w, w2]
          · simp only [decide_eq_false w]; exact this
end
end TS

set_option maxRecDepth 100000
set_option maxHeartbeats 4000000
/-! TSY: what a table carries across a cut, whatever its length -/
namespace TS
open PySem L2
theorem herm0 {m : Nat} (h : 0 < m) : sm (fun j => ((0 : Int) + j) / m) m = 0 := by
  have : ∀ k : Nat, k ≤ m → sm (fun j => ((0 : Int) + j) / m) k = 0 := by
    intro k
    induction k with
    | zero => intro _; rfl
    | succ k ih =>
      intro hk
      have e : ((0 : Int) + (k : Int)) / (m : Int) = 0 := Int.ediv_eq_zero_of_lt (by omega) (by omega)
      rw [sm, ih (by omega), e]; rfl
  exact this m (Nat.le_refl _)
theorem herm_step {m : Nat} (h : 0 < m) (z : Int) : sm (fun j => (z + 1 + j) / m) m = sm (fun j => (z + j) / m) m + 1 := by
  have a := sm_add (fun j => (z + j) / m) 1 m
  have b := sm_add (fun j => (z + j) / m) m 1
  rw [Nat.add_comm] at a
  rw [a] at b
  have e1 : sm (fun i => (z + (((1 : Nat) : Int) + i)) / m) m = sm (fun j => (z + 1 + j) / m) m := sm_congr fun i _ => by
    congr 1
    omega
  have e2 : sm (fun j => (z + j) / (m : Int)) 1 = z / m := by simp [sm]
  have e3 : sm (fun i => (z + ((m : Int) + i)) / m) 1 = z / m + 1 := by
    simp only [sm]
    rw [show z + ((m : Int) + ((0 : Nat) : Int)) = z + m * 1 by omega, Int.add_mul_ediv_left z 1 (by omega)]
    omega
  rw [e1, e2, e3] at b
  omega
theorem herm {m : Nat} (h : 0 < m) (z : Int) : sm (fun j => (z + j) / m) m = z := by
  have up : ∀ k : Nat, sm (fun j => ((k : Int) + j) / m) m = k := by
    intro k
    induction k with
    | zero => exact herm0 h
    | succ k ih =>
      have := herm_step h (k : Int)
      rw [ih] at this
      rw [Int.natCast_succ]
      exact this
  have dn : ∀ k : Nat, sm (fun j => (-(k : Int) + j) / m) m = -(k : Int) := by
    intro k
    induction k with
    | zero => simpa using herm0 h
    | succ k ih =>
      have := herm_step h (-((k + 1 : Nat) : Int))
      rw [show -((k + 1 : Nat) : Int) + 1 = -(k : Int) by omega, ih] at this
      omega
  rcases Int.le_total 0 z with q | q
  · obtain ⟨k, rfl⟩ := Int.eq_ofNat_of_zero_le q
    exact up k
  · obtain ⟨k, hk⟩ := Int.eq_ofNat_of_zero_le (show 0 ≤ -z by omega)
    have : z = -(k : Int) := by omega
    subst this
    exact dn k
theorem herm2 {m p : Nat} (h : 0 < m) (hp : 0 < p) (y : Int) : sm (fun j => (y + j * p) / ((m * p : Nat) : Int)) m = y / p := by
  have e : sm (fun j => (y + j * p) / ((m * p : Nat) : Int)) m = sm (fun j => (y / p + j) / m) m := sm_congr fun i _ => by
    have q : (y + (i : Int) * p) / ((p : Int) * m) = (y + i * p) / p / m := by rw [Int.ediv_ediv, if_neg (by intro z; omega)]; omega
    rw [Int.natCast_mul, Int.mul_comm (m : Int), q, Int.add_mul_ediv_right _ _ (by omega)]
  rw [e, herm h]
theorem sm_grid (f : Int → Int) (p : Nat) : ∀ m : Nat, sm f (m * p) = sm (fun r => sm (fun j => f (j * p + r)) m) p
  | 0 => by
    rw [Nat.zero_mul]
    have : sm (fun r => sm (fun j => f (j * p + r)) 0) p = sm (fun _ => 0) p := rfl
    rw [this, sm_const]; simp [sm]
  | m + 1 => by
    rw [Nat.succ_mul, sm_add, sm_grid f p m, ← sm_plus]
    refine sm_congr fun r _ => ?_
    rw [sm, Int.natCast_mul]
/-- what one remainder carries up, less what it carries down -/
def crs (t : List Int) (c : Int) (i : Int) : Int := (i + act t i - c) / t.length - (i - c) / t.length
def upT (t : List Int) (c : Int) : Int := sm (fun i => if crs t c i > 0 then crs t c i else 0) t.length
def dnT (t : List Int) (c : Int) : Int := sm (fun i => if 0 - crs t c i > 0 then 0 - crs t c i else 0) t.length
theorem upT_dnT {t : List Int} (h : Good t) (c : Int) : upT t c - dnT t c = flw t := by
  rw [← cnt_flw h c]
  unfold upT dnT cnt
  rw [← sm_minus]
  refine sm_congr fun i _ => ?_
  show _ = crs t c i
  split <;> split <;> omega
theorem crs_sign {t : List Int} (h0 : 0 < t.length) (c i : Int) : (0 ≤ act t i → 0 ≤ crs t c i) ∧ (act t i ≤ 0 → crs t c i ≤ 0) := by
  unfold crs
  constructor
  · intro h
    have := Int.ediv_le_ediv (show 0 < (t.length : Int) by omega) (show i - c ≤ i + act t i - c by omega)
    omega
  · intro h
    have := Int.ediv_le_ediv (show 0 < (t.length : Int) by omega) (show i + act t i - c ≤ i - c by omega)
    omega
theorem upT_eq {s t : List Int} (hs : 0 < s.length) (ht : 0 < t.length) (hd : s.length ∣ t.length) (e : act s = act t) (c : Int) : upT t c = upT s c := by
  obtain ⟨m, hm⟩ := hd
  have hm0 : 0 < m := by
    rcases Nat.eq_zero_or_pos m with z | z
    · rw [z] at hm; omega
    · exact z
  have hm' : t.length = m * s.length := by rw [hm, Nat.mul_comm]
  unfold upT
  rw [hm', sm_grid]
  refine sm_congr fun r hr => ?_
  have ea : ∀ j : Int, act t (j * s.length + r) = act s r := fun j => by
    rw [← e, Int.add_comm]
    have := (act_per s).mul j
    exact this r
  have key : sm (fun j => crs t c (j * s.length + r)) m = crs s c r := by
    have h1 := herm2 hm0 hs (r + act s r - c)
    have h2 := herm2 hm0 hs (r - c)
    unfold crs
    rw [← h1, ← h2, ← sm_minus]
    refine sm_congr fun j _ => ?_
    rw [ea, hm', show (j : Int) * s.length + r + act s r - c = r + act s r - c + j * s.length by omega, show (j : Int) * s.length + r - c = r - c + j * s.length by omega]
  rcases Int.le_total 0 (act s r) with z | z
  · have n1 : ∀ j : Int, 0 ≤ crs t c (j * s.length + r) := fun j => (crs_sign ht c _).1 (by rw [ea]; exact z)
    have n2 := (crs_sign hs c r).1 z
    rw [show (if crs s c r > 0 then crs s c r else 0) = crs s c r by split <;> omega, ← key]
    refine sm_congr fun j _ => ?_
    have := n1 j
    split <;> omega
  · have n1 : ∀ j : Int, crs t c (j * s.length + r) ≤ 0 := fun j => (crs_sign ht c _).2 (by rw [ea]; exact z)
    have n2 := (crs_sign hs c r).2 z
    rw [show (if crs s c r > 0 then crs s c r else 0) = 0 by split <;> omega]
    have : sm (fun j => if crs t c (j * s.length + r) > 0 then crs t c (j * s.length + r) else 0) m = sm (fun _ => 0) m := sm_congr fun j _ => by
      have := n1 j
      split <;> omega
    rw [this, sm_const]; simp
theorem upT_least {t : List Int} (h : Good t) (c : Int) : upT (least t) c = upT t c :=
  (upT_eq h.least.pos h.pos (leastP_dvd_len h) (least_act h.pos) c).symm
theorem upT_shift (t : List Int) (h : 0 < t.length) (c k : Int) : upT t (c + k * t.length) = upT t c := by
  unfold upT
  refine sm_congr fun i _ => ?_
  have : crs t (c + k * t.length) i = crs t c i := by
    unfold crs
    rw [show (i : Int) + act t i - (c + k * t.length) = i + act t i - c + (-k) * t.length by rw [Int.neg_mul]; omega, show (i : Int) - (c + k * t.length) = i - c + (-k) * t.length by rw [Int.neg_mul]; omega, Int.add_mul_ediv_right _ _ (by omega), Int.add_mul_ediv_right _ _ (by omega)]
    omega
  rw [this]
/-- the other way to count: from above -/
theorem crs_above {t : List Int} (h : 0 < t.length) (c i : Int) : (c - 1 - i) / t.length - (c - act t i - 1 - i) / t.length = crs t c i := by
  have key : ∀ y : Int, (y - 1) / (t.length : Int) = -((-y) / t.length) - 1 := fun y => by
    have a1 := Int.emod_add_mul_ediv (-y) t.length
    have a2 := Int.emod_nonneg (-y) (show (t.length : Int) ≠ 0 by omega)
    have a3 := Int.emod_lt_of_pos (-y) (show 0 < (t.length : Int) by omega)
    rw [show y - 1 = (t.length - 1 - (-y) % t.length) + (-((-y) / t.length) - 1) * t.length by
      rw [Int.sub_mul, Int.neg_mul, Int.mul_comm ((-y) / _)]; omega, Int.add_mul_ediv_right _ _ (by omega), Int.ediv_eq_zero_of_lt (by omega) (by omega)]
    omega
  unfold crs
  rw [show c - 1 - i = (c - i) - 1 by omega, show c - act t i - 1 - i = (c - act t i - i) - 1 by omega, key, key, show -(c - i) = i - c by omega, show -(c - act t i - i) = i + act t i - c by omega]
  omega
end TS

set_option maxRecDepth 100000
set_option maxHeartbeats 2000000
/-! TSZ: tuples of a short text and ints (plain). -/
namespace TS
open PySem L2
noncomputable section
theorem eqvS (x y : Str) : PyData.eqv (.str x) (.str y) = decide (x = y) := by
  by_cases e : x = y
  · subst e; simp [PyData.eqv]
  · simp [PyData.eqv, e]
theorem shaped_si {x : Str} (h : PyData.strOk x = true) (xs : List Int) : SeqAt.shaped (.tuple (.str x :: xs.map PyData.int)) = true := by
  have := depth_ints xs
  unfold SeqAt.shaped
  rw [Bool.and_eq_true]
  refine ⟨?_, decide_eq_true ?_⟩
  · simp only [PyData.canLay0, PyData.canLayAll0, canLay_ints xs, h, Bool.and_self]
  · simp only [PyData.depth, PyData.depthAll]
    omega
theorem toP_si (x : Str) (xs : List Int) : toP (.tup (.str x :: iL xs)) = some (.tuple (.str x :: xs.map PyData.int)) := by
  unfold toP; simp [toPs, toP, toPs_ints]
theorem gEq_si {x y : Str} (h : PyData.strOk x = true) (h' : PyData.strOk y = true) (xs ys : List Int) : gEq (.tup (.str x :: iL xs)) (.tup (.str y :: iL ys)) = some (.imm (.bl (decide (x = y ∧ xs = ys)))) := by
  simp only [gEq, toP_si, shaped_si h, shaped_si h', Bool.and_self, if_true, PyData.eqv, PyData.eqvAll, eqvAll_ints, eqvS]
  by_cases e : x = y
  · by_cases e2 : xs = ys <;> simp [e, e2]
  · simp [e]
theorem gNe_si {x y : Str} (h : PyData.strOk x = true) (h' : PyData.strOk y = true) (xs ys : List Int) : gNe (.tup (.str x :: iL xs)) (.tup (.str y :: iL ys)) = some (.imm (.bl (!decide (x = y ∧ xs = ys)))) := by
  simp only [gNe, toP_si, shaped_si h, shaped_si h', Bool.and_self, if_true, PyData.eqv, PyData.eqvAll, eqvAll_ints, eqvS]
  by_cases e : x = y
  · by_cases e2 : xs = ys <;> simp [e, e2]
  · simp [e]
theorem fine_line : fine (.str "line") := by unfold fine; refine ⟨?_, ?_, ?_⟩ <;> decide +kernel
theorem fine_round : fine (.str "round") := by unfold fine; refine ⟨?_, ?_, ?_⟩ <;> decide +kernel
def reprT (x : Str) (xs : List Int) : Str := (PyData.tuple (.str x :: xs.map PyData.int)).shown
theorem fine_si {x : Str} (hx : fine (.str x)) {xs : List Int} (h : ∀ i ∈ xs, i.natAbs < 2 ^ 255) : fine (.tuple (.str x :: xs.map PyData.int)) := by
  simp only [fine, fineAll]
  unfold fine at hx
  exact ⟨hx, fine_ints h⟩
theorem repr_si {x : Str} (hx : fine (.str x)) {xs : List Int} (h : ∀ i ∈ xs, i.natAbs < 2 ^ 255) (hl : xs.length ≤ 10000) (hxl : PyData.bulk (.str x) ≤ 1000) : gRepr [.tup (.str x :: iL xs)] = some (.imm (.str (reprT x xs))) :=
  repr_fine (toP_si x xs) (fine_si hx h) (by
    have := depth_ints xs
    simp only [PyData.depth, PyData.depthAll]; omega) (by simp only [PyData.bulk, PyData.bulkAll, bulk_ints] at hxl ⊢; omega)
theorem reprT_ne {x : Str} (hx : fine (.str x)) {xs : List Int} (h : ∀ i ∈ xs, i.natAbs < 2 ^ 255) : gNe (.str (reprT x xs)) (.str (reprT x xs)) = some (.imm (.bl false)) := ne_fine (fine_si hx h)
theorem eq_fine {p : PyData} (h : fine p) : gEq (.str p.shown) (.str p.shown) = some (.imm (.bl true)) := by
  rw [gEq_str (fine_text p h) (fine_text p h)]; simp
end
end TS

set_option maxRecDepth 100000
set_option maxHeartbeats 2000000
/-! TSP: lambdas, tries, repr with dicts (plain). -/
namespace TS
open PySem L2
noncomputable section
@[simp] theorem ap_fRes (i : Nat) (res : Res D) (δ : Sl) : fRes i res δ = match δ[i]? with
  | some (some (.imm .lam)) => (match res with
    | .ok d _ => .ok (.imm d) δ
    | .exc x _ => .exc x δ
    | .bad => .bad)
  | _ => .bad := rfl
@[simp] theorem ap_fReprD (fa : FD) (δ : Sl) : fReprD fa δ = (fa δ).bind fun d δ1 => match gReprD d with
  | some x => .ok (.str x) δ1
  | none => .bad := rfl
@[simp] theorem ap_fLam (ixs : List Nat) (mt : Res D → Fm) (fb : FE) (δ : Sl) : fLam ixs mt fb δ = outL (mt (thk fb (frzS ixs δ)) none [.lam]) (frzS ixs δ) := rfl
@[simp] theorem ap_fCMethK (n : Nat) (f : Fm) (l : Nat) (fk : FA) (δ : Sl) : fCMethK n f l fk δ = (fk δ).bind fun ds δ1 => if ds.length = l then outE (f none (.cls n :: ds)) δ1 else .bad := rfl
@[simp] theorem ap_hNil (y : XD) : hNil y = none := rfl
theorem hCons_hit {tab : Nat → Option Bool} {g : XD → FS} {hs : XD → Option FS} {y : XD} (h : tab y.c = some true) : hCons tab g hs y = some (g y) := by
  unfold hCons; rw [h]
theorem hCons_miss {tab : Nat → Option Bool} {g : XD → FS} {hs : XD → Option FS} {y : XD} (h : tab y.c = some false) : hCons tab g hs y = hs y := by
  unfold hCons; rw [h]
@[simp] theorem ap_sRaise (n k : Nat) (fa : FA) (δ : Sl) : sRaise n k fa δ = (fa δ).bindS fun ds δ1 => if ds.length = k then .exc ⟨n, ds.reverse⟩ δ1 else .bad := rfl
theorem try_exc {i : Nat} {gb : FS} {hs : XD → Option FS} {δ δ1 δ2 : Sl} {x : XD} {g : FS} (e : gb δ = .exc x δ1) (h : hs x = some g) (hi : i < δ1.length) (eg : g (δ1.set i none) = .nx δ2) : sTry i gb hs δ = .nx (δ2.set i none) := by
  unfold sTry
  rw [e]
  simp [h, hi, eg]
theorem try_nx {i : Nat} {gb : FS} {hs : XD → Option FS} {δ δ1 : Sl} (e : gb δ = .nx δ1) : sTry i gb hs δ = .nx δ1 := by
  unfold sTry; rw [e]
@[simp] theorem outE_exc (x : XD) (io : Option OB) (δ : Sl) : outE (.exc x io) δ = .exc x δ := rfl
/-- repr of written data -/
theorem reprD_of {d : D} {p : PyData} (e : toPd d = some p) (h : (p.showable && (decide (p.depth ≤ 32) && (decide (p.shown.length ≤ 16777216) && PyData.strOk p.shown))) = true) :
    ∃ x, gReprD d = some x ∧ gEq (.str x) (.str x) = some (.imm (.bl true)) ∧ gNe (.str x) (.str x) = some (.imm (.bl false)) ∧ PyData.strOk x = true := by
  rw [Bool.and_eq_true, Bool.and_eq_true, Bool.and_eq_true] at h
  obtain ⟨h1, h2, h3, h4⟩ := h
  have ok : shOkD p = true := gd_true ⟨h1, of_decide_eq_true h2, of_decide_eq_true h3⟩
  refine ⟨p.shown, ?_, ?_, ?_, h4⟩
  · simp [gReprD, e, ok]
  · rw [gEq_str h4 h4]; simp
  · rw [gNe_str h4 h4]; simp
/-- data is equal to itself -/
theorem gEq_self {d : D} {p : PyData} (e : toP d = some p) (h : SeqAt.shaped p = true) : gEq d d = some (.imm (.bl true)) := by
  have h2 : p.canLay0 = true := by unfold SeqAt.shaped at h; exact (Bool.and_eq_true _ _ ▸ h).1
  simp only [gEq, e, h, Bool.and_self, if_true, SeqAt.eqv_refl p h2]
theorem gNe_self {d : D} {p : PyData} (e : toP d = some p) (h : SeqAt.shaped p = true) : gNe d d = some (.imm (.bl false)) := by
  have h2 : p.canLay0 = true := by unfold SeqAt.shaped at h; exact (Bool.and_eq_true _ _ ▸ h).1
  simp only [gNe, e, h, Bool.and_self, if_true, SeqAt.eqv_refl p h2]
  rfl
theorem gRep_d {ds : List D} {k : Nat} (h1 : k ≤ 16777216) (h2 : ds.length * k ≤ 16777216) : gMul (.lst ds) (.int (k : Int)) = some (.own (.l (List.replicate k ds).flatten)) := by
  have e : gI CMulB (fun i j => i * j) (.lst ds) (.int (k : Int)) = none := rfl
  have e2 : gd (0 ≤ (k : Int) ∧ (k : Int) < 9223372036854775808 ∧ ds.length * ((k : Int)).toNat ≤ 16777216) = true := gd_true ⟨by omega, by omega, by rw [Int.toNat_natCast]; exact h2⟩
  simp only [gMul, gOr, e, gRep, e2, if_true]
  rw [Int.toNat_natCast]
theorem toPs_strs : ∀ xs : List Str, toPs (xs.map D.str) = some (xs.map PyData.str)
  | [] => rfl
  | x :: xs => by simp [toPs, toP, toPs_strs xs]
theorem lay_strs : ∀ {xs : List Str}, (∀ x ∈ xs, PyData.strOk x = true) → PyData.canLayAll0 (xs.map PyData.str) = true ∧ PyData.depthAll (xs.map PyData.str) ≤ 1
  | [], _ => by simp [PyData.canLayAll0, PyData.depthAll]
  | x :: xs, h => by
    obtain ⟨h1, h2⟩ := lay_strs (xs := xs) fun y hy => h y (by simp [hy])
    simp only [List.map_cons, PyData.canLayAll0, PyData.depthAll, PyData.canLay0, PyData.depth, h x (by simp), h1, Bool.and_self]
    exact ⟨trivial, by omega⟩
theorem shaped_strs {xs : List Str} (h : ∀ x ∈ xs, PyData.strOk x = true) : SeqAt.shaped (.list (xs.map PyData.str)) = true := by
  obtain ⟨h1, h2⟩ := lay_strs h
  unfold SeqAt.shaped
  rw [Bool.and_eq_true]
  refine ⟨by simp [PyData.canLay0, h1], decide_eq_true ?_⟩
  simp only [PyData.depth]
  omega
theorem gEq_strs {xs : List Str} (h : ∀ x ∈ xs, PyData.strOk x = true) : gEq (.lst (xs.map D.str)) (.lst (xs.map D.str)) = some (.imm (.bl true)) :=
  gEq_self (p := .list (xs.map PyData.str)) (by simp [toP, toPs_strs]) (shaped_strs h)
theorem itRg2_int {f g : FD} {δ δ1 δ2 : Sl} {a b : Int} (ha : -4611686018427387904 ≤ a ∧ a < 4611686018427387904) (hb : -4611686018427387904 ≤ b ∧ b < 4611686018427387904) (e1 : f δ = .ok (.int a) δ1) (e2 : g δ1 = .ok (.int b) δ2) : itRg2 f g δ = .ok (iL ((List.range (b - a).toNat).map fun i : Nat => a + (i : Int))) δ2 := by
  unfold itRg2
  rw [e1, Res.bind_ok, e2, Res.bind_ok]
  show (if gd (-4611686018427387904 ≤ a ∧ a < 4611686018427387904 ∧ -4611686018427387904 ≤ b ∧ b < 4611686018427387904) = true then Res.ok (rgD a b) δ2 else .bad) = _
  rw [if_pos (gd_true ⟨ha.1, ha.2, hb.1, hb.2⟩)]
  simp [rgD, iL]
theorem dups_nodup : ∀ {xs : List Int}, xs.Nodup → xs.eraseDups = xs
  | [], _ => rfl
  | x :: xs, h => by
    rw [List.nodup_cons] at h
    rw [List.eraseDups_cons, List.filter_eq_self.mpr, dups_nodup h.2]
    intro y hy
    have : y ≠ x := fun z => h.1 (z ▸ hy)
    simpa using this
end
end TS

set_option maxHeartbeats 0
namespace K12
open PySem L2 TS
structure Ev (K : PySem.W.Frag) (mg : Str → Option Value) (base : Heap) : Prop where
  c : SaysS fa fn K
  X : K.In base
  G : base.Ns mainGlobals mg
  t : ∀ p ∈ csOf tn K, LamX.TabB base mg p.1 p.2
  m : ∀ x ∈ tn, fnRef x.1 K = true
  u : ∀ x ∈ tn, ∀ y ∈ tn, tbA x.1 K = tbA y.1 K → x.2 = y.2
def MM (K : PySem.W.Frag) : Gm where
  K := K
  G := fun n => match n with | 0 => some (He.ga K "Plan") | 100 => some (He.ga K "InvalidInteger") | 102 => some (He.ga K "InvalidTable") | 115 => some (He.ga K "TooLong") | _ => none
  nm := fun n => match n with | 0 => ["own_offsets", "own_sources"] | 100 => ["value"] | 102 => ["earlier", "position", "problem"] | 115 => ["multiple"] | _ => []
  T := tsOf tn K
noncomputable section
variable {P : Program} {w : World} {K : PySem.W.Frag} {mg : Str → Option Value} {base : Heap}
theorem nm_lt : ∀ n, ((MM K).nm n).length < 1000 := by
  intro n
  show (match n with | 0 => ["own_offsets", "own_sources"] | 100 => ["value"] | 102 => ["earlier", "position", "problem"] | 115 => ["multiple"] | _ => [] : List Str).length < 1000
  split <;> decide
theorem u_len (v : Ev K mg base) : mg "len" = none := He.free_ok v.X v.G (v.c.fact 0 (f := .he (.free "len")))
theorem u_min (v : Ev K mg base) : mg "min" = none := He.free_ok v.X v.G (v.c.fact 1 (f := .he (.free "min")))
theorem u_max (v : Ev K mg base) : mg "max" = none := He.free_ok v.X v.G (v.c.fact 2 (f := .he (.free "max")))
theorem u_range (v : Ev K mg base) : mg "range" = none := He.free_ok v.X v.G (v.c.fact 3 (f := .he (.free "range")))
theorem u_divmod (v : Ev K mg base) : mg "divmod" = none := He.free_ok v.X v.G (v.c.fact 4 (f := .he (.free "divmod")))
theorem u_int (v : Ev K mg base) : mg "int" = none := He.free_ok v.X v.G (v.c.fact 5 (f := .he (.free "int")))
theorem u__law_draw (v : Ev K mg base) : mg "_law_draw" = some (.ref (He.ga K "_law_draw")) := He.glo_ok v.X v.G (v.c.fact 6 (f := .he (.glo "_law_draw")))
theorem u__law_choice (v : Ev K mg base) : mg "_law_choice" = some (.ref (He.ga K "_law_choice")) := He.glo_ok v.X v.G (v.c.fact 7 (f := .he (.glo "_law_choice")))
theorem u_list (v : Ev K mg base) : mg "list" = none := He.free_ok v.X v.G (v.c.fact 8 (f := .he (.free "list")))
theorem u__law_shuffled (v : Ev K mg base) : mg "_law_shuffled" = some (.ref (He.ga K "_law_shuffled")) := He.glo_ok v.X v.G (v.c.fact 9 (f := .he (.glo "_law_shuffled")))
theorem u__law_great (v : Ev K mg base) : mg "_law_great" = some (.ref (He.ga K "_law_great")) := He.glo_ok v.X v.G (v.c.fact 10 (f := .he (.glo "_law_great")))
theorem u__law_table (v : Ev K mg base) : mg "_law_table" = some (.ref (He.ga K "_law_table")) := He.glo_ok v.X v.G (v.c.fact 11 (f := .he (.glo "_law_table")))
theorem u_least_table (v : Ev K mg base) : mg "least_table" = some (.ref (He.ga K "least_table")) := He.glo_ok v.X v.G (v.c.fact 14 (f := .he (.glo "least_table")))
theorem u_tuple (v : Ev K mg base) : mg "tuple" = none := He.free_ok v.X v.G (v.c.fact 15 (f := .he (.free "tuple")))
theorem u_isinstance (v : Ev K mg base) : mg "isinstance" = none := He.free_ok v.X v.G (v.c.fact 16 (f := .he (.free "isinstance")))
theorem u_InvalidTable (v : Ev K mg base) : mg "InvalidTable" = some (.ref (He.ga K "InvalidTable")) := He.glo_ok v.X v.G (v.c.fact 21 (f := .he (.glo "InvalidTable")))
theorem u_Move (v : Ev K mg base) : mg "Move" = some (.ref (He.ga K "Move")) := He.glo_ok v.X v.G (v.c.fact 24 (f := .he (.glo "Move")))
theorem u_TooLong (v : Ev K mg base) : mg "TooLong" = some (.ref (He.ga K "TooLong")) := He.glo_ok v.X v.G (v.c.fact 27 (f := .he (.glo "TooLong")))
theorem u_enumerate (v : Ev K mg base) : mg "enumerate" = none := He.free_ok v.X v.G (v.c.fact 28 (f := .he (.free "enumerate")))
theorem u_bool (v : Ev K mg base) : mg "bool" = none := He.free_ok v.X v.G (v.c.fact 29 (f := .he (.free "bool")))
theorem u_is_integer (v : Ev K mg base) : mg "is_integer" = some (.ref (He.ga K "is_integer")) := He.glo_ok v.X v.G (v.c.fact 30 (f := .he (.glo "is_integer")))
theorem u_checked_table (v : Ev K mg base) : mg "checked_table" = some (.ref (He.ga K "checked_table")) := He.glo_ok v.X v.G (v.c.fact 31 (f := .he (.glo "checked_table")))
theorem u_Plan (v : Ev K mg base) : mg "Plan" = some (.ref (He.ga K "Plan")) := He.glo_ok v.X v.G (v.c.fact 34 (f := .he (.glo "Plan")))
theorem u_sources_of (v : Ev K mg base) : mg "sources_of" = some (.ref (He.ga K "sources_of")) := He.glo_ok v.X v.G (v.c.fact 36 (f := .he (.glo "sources_of")))
theorem u__law_place (v : Ev K mg base) : mg "_law_place" = some (.ref (He.ga K "_law_place")) := He.glo_ok v.X v.G (v.c.fact 39 (f := .he (.glo "_law_place")))
theorem u_InvalidInteger (v : Ev K mg base) : mg "InvalidInteger" = some (.ref (He.ga K "InvalidInteger")) := He.glo_ok v.X v.G (v.c.fact 42 (f := .he (.glo "InvalidInteger")))
theorem u_require_integer (v : Ev K mg base) : mg "require_integer" = some (.ref (He.ga K "require_integer")) := He.glo_ok v.X v.G (v.c.fact 43 (f := .he (.glo "require_integer")))
theorem u_ThreeswapsError (v : Ev K mg base) : mg "ThreeswapsError" = some (.ref (He.ga K "ThreeswapsError")) := He.glo_ok v.X v.G (v.c.fact 51 (f := .he (.glo "ThreeswapsError")))
theorem u_LimitError (v : Ev K mg base) : mg "LimitError" = some (.ref (He.ga K "LimitError")) := He.glo_ok v.X v.G (v.c.fact 57 (f := .he (.glo "LimitError")))
theorem u_repr (v : Ev K mg base) : mg "repr" = none := He.free_ok v.X v.G (v.c.fact 59 (f := .he (.free "repr")))
theorem u_moved (v : Ev K mg base) : mg "moved" = some (.ref (He.ga K "moved")) := He.glo_ok v.X v.G (v.c.fact 60 (f := .he (.glo "moved")))
theorem u__law_refused (v : Ev K mg base) : mg "_law_refused" = some (.ref (He.ga K "_law_refused")) := He.glo_ok v.X v.G (v.c.fact 62 (f := .he (.glo "_law_refused")))
theorem u__law_refused_right (v : Ev K mg base) : mg "_law_refused_right" = some (.ref (He.ga K "_law_refused_right")) := He.glo_ok v.X v.G (v.c.fact 65 (f := .he (.glo "_law_refused_right")))
theorem u__law_at (v : Ev K mg base) : mg "_law_at" = some (.ref (He.ga K "_law_at")) := He.glo_ok v.X v.G (v.c.fact 66 (f := .he (.glo "_law_at")))
theorem u__law_is_place (v : Ev K mg base) : mg "_law_is_place" = some (.ref (He.ga K "_law_is_place")) := He.glo_ok v.X v.G (v.c.fact 67 (f := .he (.glo "_law_is_place")))
theorem u_all (v : Ev K mg base) : mg "all" = none := He.free_ok v.X v.G (v.c.fact 68 (f := .he (.free "all")))
theorem u__law_source (v : Ev K mg base) : mg "_law_source" = some (.ref (He.ga K "_law_source")) := He.glo_ok v.X v.G (v.c.fact 69 (f := .he (.glo "_law_source")))
theorem u__law_asked_right (v : Ev K mg base) : mg "_law_asked_right" = some (.ref (He.ga K "_law_asked_right")) := He.glo_ok v.X v.G (v.c.fact 70 (f := .he (.glo "_law_asked_right")))
theorem u_set (v : Ev K mg base) : mg "set" = none := He.free_ok v.X v.G (v.c.fact 71 (f := .he (.free "set")))
theorem u__law_right (v : Ev K mg base) : mg "_law_right" = some (.ref (He.ga K "_law_right")) := He.glo_ok v.X v.G (v.c.fact 72 (f := .he (.glo "_law_right")))
theorem u_abs (v : Ev K mg base) : mg "abs" = none := He.free_ok v.X v.G (v.c.fact 73 (f := .he (.free "abs")))
theorem u__law_pot (v : Ev K mg base) : mg "_law_pot" = some (.ref (He.ga K "_law_pot")) := He.glo_ok v.X v.G (v.c.fact 74 (f := .he (.glo "_law_pot")))
theorem u_law (v : Ev K mg base) : mg "law" = some (.ref (He.ga K "law")) := He.glo_ok v.X v.G (v.c.fact 75 (f := .he (.glo "law")))
/-! _law_draw -/
abbrev g__law_draw_1a_1 : FS := (sAsg (fCal gDivmod (aCons (frz (fBinV gIx 0 (kD (.int 0)))) (aCons (vI 1) aNil))) (tTup 2 (tsCons (tSub 0 (kD (.int 0))) (tsCons (tName 2) tsNil))))
abbrev g__law_draw_1a_2 : FS := (sRet (vR 2))
abbrev g__law_draw_1 : FS := (sIf (fTst (fBin gGt (frz (fBinV gIx 0 (kD (.int 0)))) (kD (.int 0)))) (sSeq g__law_draw_1a_1 g__law_draw_1a_2) sNil)
abbrev g__law_draw_2 : FS := (sAsg (fBin gMod (frz (fCal gInt (aOne (frz (fBin gAdd (frz (fBin gMul (frz (fBinV gIx 0 (kD (.int 1)))) (kD (.int 48271)))) (kD (.int 20011))))))) (kD (.int 2147483629))) (tSub 0 (kD (.int 1))))
abbrev g__law_draw_3 : FS := (sRet (fBin gMod (frz (fCal gInt (aOne (frz (fBin gFdiv (frz (fBin gMod (frz (fCal gInt (aOne (frz (fBin gMul (frz (fBinV gIx 0 (kD (.int 1)))) (frz (fBinV gIx 0 (kD (.int 1))))))))) (kD (.int 2147483587)))) (kD (.int 11))))))) (vP 1)))
def g__law_draw : FS := (sSeq g__law_draw_1 (sSeq g__law_draw_2 g__law_draw_3))
theorem S__law_draw : FnScope ["_law_pot_here", "_law_many", "_law_digit"] ["_law_pot_here", "_law_many"] (defScope (top 24)) := ⟨rfl, rfl, rfl, by decide +kernel, rfl, by decide +kernel, by decide +kernel⟩
theorem kp__law_draw (v : Ev K mg base) : PySem.W.keepIn K (.ref (He.ga K "_law_draw")) = true := (v.c.def_ 0 (d := d__law_draw) rfl).elim fun _ F => F.kp
theorem b__law_draw (v : Ev K mg base) (cdv : Value) (A : Around) (outer : List Env) (s : Shared) (H : Hp) (E : XK) (hr : TS.Room 0 (A.deeper (PyProof.Rows.envOfC "_law_draw" (defScope (top 24)) s.heap.objs.size (He.ga K "_law_draw") cdv))) (tk : Takes (cxOf (L2.CX P w) P w K mg base ["_law_pot_here", "_law_many", "_law_digit"] "_law_draw" (defScope (top 24)) (He.ga K "_law_draw") cdv A outer s H E) (fun cls d _ H => E cls d H))
    (hp : PassesOwn (model P w) (A.deeper (PyProof.Rows.envOfC "_law_draw" (defScope (top 24)) s.heap.objs.size (He.ga K "_law_draw") cdv)) (PyProof.Rows.envOfC "_law_draw" (defScope (top 24)) s.heap.objs.size (He.ga K "_law_draw") cdv) (cxOf (L2.CX P w) P w K mg base ["_law_pot_here", "_law_many", "_law_digit"] "_law_draw" (defScope (top 24)) (He.ga K "_law_draw") cdv A outer s H E).xe) : DSs (MM K) (fun cls d _ H => E cls d H) (cxOf (L2.CX P w) P w K mg base ["_law_pot_here", "_law_many", "_law_digit"] "_law_draw" (defScope (top 24)) (He.ga K "_law_draw") cdv A outer s H E) (defBody (top 24)) g__law_draw :=
  (dss_cons (ds_if (t_gt (DE.frz (x_ixV hr (pv 0) (DI.pk di_int))) (DI.pk di_int)) (dss_cons (ds_asg (b_divmod (by rfl) (u_divmod v) (DA.b (da_cons (DE.frz (x_ixV hr (pv 0) (DI.pk di_int))) (da_cons (di_var (pv 1)) da_nil)))) (dg_tup (by rfl) (dgs_cons (dg_sub (pv 0) di_int (hu_of hr)) (dgs_cons (dg_name (pg_name S__law_draw.nd (by rfl) (by first | exact Or.inl rfl | exact Or.inr rfl))) dgs_nil))) (tgt_tup (tgs_cons tgt_sub (tgs_cons (tgt_name 2) tgs_nil))))
    (dss_one (ds_ret (de_var (pv 2))))) dss_nil)
    (dss_cons (ds_asg (x_mod (DE.frz (b_int (by rfl) (u_int v) (db_one (DE.pk (x_add (DE.frz (x_mul (DE.frz (x_ixV hr (pv 0) (DI.pk di_int))) (DI.pk di_int))) (DI.pk di_int)))))) (DI.pk di_int)) (dg_sub (pv 0) di_int (hu_of hr)) tgt_sub)
    (dss_one (ds_ret (x_mod (DE.frz (b_int (by rfl) (u_int v) (db_one (DE.pk (x_fdiv (DE.frz (x_mod (DE.frz (b_int (by rfl) (u_int v) (db_one (DE.pk (x_mul (DE.frz (x_ixV hr (pv 0) (DI.pk di_int))) (DE.pk (x_ixV hr (pv 0) (DI.pk di_int)))))))) (DI.pk di_int))) (DI.pk di_int)))))) (dp_var (pv 1)))))))
def m__law_draw : Fm := mir 3 2 g__law_draw
theorem o__law_draw (v : Ev K mg base) : ∃ fd, FunD K "_law_draw" "_law_draw" (defArgs (top 24)) (defBody (top 24)) (defScope (top 24)) [] [] (He.ga K "_law_draw") fd ∧ TS.FnOk P w K mg base (L2.CX P w) 1 (He.ga K "_law_draw") fd ["_law_pot_here", "_law_many"] (spD (MM K) m__law_draw) := by
  obtain ⟨fd, F⟩ := v.c.def_ 0 (d := d__law_draw) rfl
  exact ⟨fd, F, funD_mir (M := MM K) F S__law_draw (by decide) (fun cdv A outer s H E hr tk hp => b__law_draw v cdv A outer s H E hr tk hp)⟩
theorem f__law_draw (v : Ev K mg base) : TS.FnR P w K mg base (L2.CX P w) 1 (He.ga K "_law_draw") (spD (MM K) m__law_draw) := by
  obtain ⟨fd, F, O⟩ := o__law_draw (P := P) (w := w) v
  exact fnR_raw (M := MM K) O (F.bindsN (ps := ["_law_pot_here", "_law_many"]) fun _ _ _ _ _ _ us hl => match us, hl with | [_, _], _ => rfl)
/-! _law_choice -/
abbrev g__law_choice_1 : FS := (sRet (fBin gIx (vI 1) (frz (fOwnIo m__law_draw 0 (aCons (frz (fCal gLen (aOne (vP 1)))) aNil)))))
def g__law_choice : FS := g__law_choice_1
theorem S__law_choice : FnScope ["_law_pot_here", "_law_some"] ["_law_pot_here", "_law_some"] (defScope (top 25)) := ⟨rfl, rfl, rfl, by decide +kernel, rfl, by decide +kernel, by decide +kernel⟩
theorem kp__law_choice (v : Ev K mg base) : PySem.W.keepIn K (.ref (He.ga K "_law_choice")) = true := (v.c.def_ 1 (d := d__law_choice) rfl).elim fun _ F => F.kp
theorem b__law_choice (v : Ev K mg base) (cdv : Value) (A : Around) (outer : List Env) (s : Shared) (H : Hp) (E : XK) (hr : TS.Room 1 (A.deeper (PyProof.Rows.envOfC "_law_choice" (defScope (top 25)) s.heap.objs.size (He.ga K "_law_choice") cdv))) (tk : Takes (cxOf (L2.CX P w) P w K mg base ["_law_pot_here", "_law_some"] "_law_choice" (defScope (top 25)) (He.ga K "_law_choice") cdv A outer s H E) (fun cls d _ H => E cls d H))
    (hp : PassesOwn (model P w) (A.deeper (PyProof.Rows.envOfC "_law_choice" (defScope (top 25)) s.heap.objs.size (He.ga K "_law_choice") cdv)) (PyProof.Rows.envOfC "_law_choice" (defScope (top 25)) s.heap.objs.size (He.ga K "_law_choice") cdv) (cxOf (L2.CX P w) P w K mg base ["_law_pot_here", "_law_some"] "_law_choice" (defScope (top 25)) (He.ga K "_law_choice") cdv A outer s H E).xe) : DSs (MM K) (fun cls d _ H => E cls d H) (cxOf (L2.CX P w) P w K mg base ["_law_pot_here", "_law_some"] "_law_choice" (defScope (top 25)) (He.ga K "_law_choice") cdv A outer s H E) (defBody (top 25)) g__law_choice :=
  (dss_one (ds_ret (x_ix hr (di_var (pv 1)) (DE.pk (d_ownIo (fun h => pe_own ((f__law_draw v).mono (by decide)) hr tk (by rfl) (u__law_draw v) (kp__law_draw v) h) (pv 0) (da_cons (DE.frz (b_len (by rfl) (u_len v) (db_one (dp_var (pv 1))))) da_nil))))))
def m__law_choice : Fm := mir 2 2 g__law_choice
theorem o__law_choice (v : Ev K mg base) : ∃ fd, FunD K "_law_choice" "_law_choice" (defArgs (top 25)) (defBody (top 25)) (defScope (top 25)) [] [] (He.ga K "_law_choice") fd ∧ TS.FnOk P w K mg base (L2.CX P w) 2 (He.ga K "_law_choice") fd ["_law_pot_here", "_law_some"] (spD (MM K) m__law_choice) := by
  obtain ⟨fd, F⟩ := v.c.def_ 1 (d := d__law_choice) rfl
  exact ⟨fd, F, funD_mir (M := MM K) F S__law_choice (by decide) (fun cdv A outer s H E hr tk hp => b__law_choice v cdv A outer s H E hr tk hp)⟩
theorem f__law_choice (v : Ev K mg base) : TS.FnR P w K mg base (L2.CX P w) 2 (He.ga K "_law_choice") (spD (MM K) m__law_choice) := by
  obtain ⟨fd, F, O⟩ := o__law_choice (P := P) (w := w) v
  exact fnR_raw (M := MM K) O (F.bindsN (ps := ["_law_pot_here", "_law_some"]) fun _ _ _ _ _ _ us hl => match us, hl with | [_, _], _ => rfl)
/-! _law_shuffled -/
abbrev g__law_shuffled_1 : FS := (sPar 3 4 (fCal gList (aOne (vP 1))) (fLst aNil))
abbrev g__law_shuffled_2_1 : FS := (sExpr (toE (fMut 4 mAppend (aCons (fMut 3 mPop (aCons (frz (fOwnIo m__law_draw 0 (aCons (frz (fCal gLen (aOne (vP 3)))) aNil))) aNil)) aNil))))
abbrev g__law_shuffled_2B : FS := g__law_shuffled_2_1
abbrev g__law_shuffled_2 : FS := (sFor (itRg1 (frz (fCal gLen (aOne (vP 1))))) (tName 2) g__law_shuffled_2B)
abbrev g__law_shuffled_3 : FS := (sRet (vR 4))
def g__law_shuffled : FS := (sSeq g__law_shuffled_1 (sSeq g__law_shuffled_2 g__law_shuffled_3))
theorem S__law_shuffled : FnScope ["_law_pot_here", "_law_some", "_law_turn", "_law_left", "_law_mixed"] ["_law_pot_here", "_law_some"] (defScope (top 26)) := ⟨rfl, rfl, rfl, by decide +kernel, rfl, by decide +kernel, by decide +kernel⟩
theorem kp__law_shuffled (v : Ev K mg base) : PySem.W.keepIn K (.ref (He.ga K "_law_shuffled")) = true := (v.c.def_ 2 (d := d__law_shuffled) rfl).elim fun _ F => F.kp
theorem b__law_shuffled (v : Ev K mg base) (cdv : Value) (A : Around) (outer : List Env) (s : Shared) (H : Hp) (E : XK) (hr : TS.Room 1 (A.deeper (PyProof.Rows.envOfC "_law_shuffled" (defScope (top 26)) s.heap.objs.size (He.ga K "_law_shuffled") cdv))) (tk : Takes (cxOf (L2.CX P w) P w K mg base ["_law_pot_here", "_law_some", "_law_turn", "_law_left", "_law_mixed"] "_law_shuffled" (defScope (top 26)) (He.ga K "_law_shuffled") cdv A outer s H E) (fun cls d _ H => E cls d H))
    (hp : PassesOwn (model P w) (A.deeper (PyProof.Rows.envOfC "_law_shuffled" (defScope (top 26)) s.heap.objs.size (He.ga K "_law_shuffled") cdv)) (PyProof.Rows.envOfC "_law_shuffled" (defScope (top 26)) s.heap.objs.size (He.ga K "_law_shuffled") cdv) (cxOf (L2.CX P w) P w K mg base ["_law_pot_here", "_law_some", "_law_turn", "_law_left", "_law_mixed"] "_law_shuffled" (defScope (top 26)) (He.ga K "_law_shuffled") cdv A outer s H E).xe) : DSs (MM K) (fun cls d _ H => E cls d H) (cxOf (L2.CX P w) P w K mg base ["_law_pot_here", "_law_some", "_law_turn", "_law_left", "_law_mixed"] "_law_shuffled" (defScope (top 26)) (He.ga K "_law_shuffled") cdv A outer s H E) (defBody (top 26)) g__law_shuffled :=
  (dss_cons (ds_par (i := 3) (j := 4) (by rfl) S__law_shuffled.nd (by rfl) (by rfl) (by decide) (by rfl) (by rfl) (b_list (by rfl) (u_list v) (db_one (dp_var (pv 1)))) (de_lst da_nil) (by rfl))
    (dss_cons (ds_for hp (by rfl) (dit_rg1 (by rfl) (u_range v) (DE.frz (b_len (by rfl) (u_len v) (db_one (dp_var (pv 1)))))) (dg_name (pg_name S__law_shuffled.nd (by rfl) (by first | exact Or.inl rfl | exact Or.inr rfl))) (tgt_name 2) (dss_one (ds_expr (DI.toE (m_append (pv 4) (da_cons (m_pop (pv 3) (da_cons (DE.frz (d_ownIo (fun h => pe_own ((f__law_draw v).mono (by decide)) hr tk (by rfl) (u__law_draw v) (kp__law_draw v) h) (pv 0) (da_cons (DE.frz (b_len (by rfl) (u_len v) (db_one (dp_var (pv 3))))) da_nil))) da_nil)) da_nil))))))
    (dss_one (ds_ret (de_var (pv 4))))))
def m__law_shuffled : Fm := mir 5 2 g__law_shuffled
theorem o__law_shuffled (v : Ev K mg base) : ∃ fd, FunD K "_law_shuffled" "_law_shuffled" (defArgs (top 26)) (defBody (top 26)) (defScope (top 26)) [] [] (He.ga K "_law_shuffled") fd ∧ TS.FnOk P w K mg base (L2.CX P w) 2 (He.ga K "_law_shuffled") fd ["_law_pot_here", "_law_some"] (spD (MM K) m__law_shuffled) := by
  obtain ⟨fd, F⟩ := v.c.def_ 2 (d := d__law_shuffled) rfl
  exact ⟨fd, F, funD_mir (M := MM K) F S__law_shuffled (by decide) (fun cdv A outer s H E hr tk hp => b__law_shuffled v cdv A outer s H E hr tk hp)⟩
theorem f__law_shuffled (v : Ev K mg base) : TS.FnR P w K mg base (L2.CX P w) 2 (He.ga K "_law_shuffled") (spD (MM K) m__law_shuffled) := by
  obtain ⟨fd, F, O⟩ := o__law_shuffled (P := P) (w := w) v
  exact fnR_raw (M := MM K) O (F.bindsN (ps := ["_law_pot_here", "_law_some"]) fun _ _ _ _ _ _ us hl => match us, hl with | [_, _], _ => rfl)
/-! _law_great -/
abbrev g__law_great_1 : FS := (sAsg (fBin gAdd (frz (fBin gAdd (frz (fBin gMul (frz (fOwnIo m__law_draw 0 (aCons (frz (fBin gPow (kD (.int 10)) (kD (.int 7)))) aNil))) (frz (fBin gPow (kD (.int 10)) (kD (.int 14)))))) (frz (fBin gMul (frz (fOwnIo m__law_draw 0 (aCons (frz (fBin gPow (kD (.int 10)) (kD (.int 7)))) aNil))) (frz (fBin gPow (kD (.int 10)) (kD (.int 7)))))))) (frz (fOwnIo m__law_draw 0 (aCons (frz (fBin gPow (kD (.int 10)) (kD (.int 7)))) aNil)))) (tName 1))
abbrev g__law_great_2 : FS := (sRet (fBin gIx (frz (fLst (aCons (vI 1) (aCons (frz (fBin gSub (kD (.int 0)) (vP 1))) aNil)))) (frz (fOwnIo m__law_draw 0 (aCons (kD (.int 2)) aNil)))))
def g__law_great : FS := (sSeq g__law_great_1 g__law_great_2)
theorem S__law_great : FnScope ["_law_pot_here", "_law_number"] ["_law_pot_here"] (defScope (top 27)) := ⟨rfl, rfl, rfl, by decide +kernel, rfl, by decide +kernel, by decide +kernel⟩
theorem kp__law_great (v : Ev K mg base) : PySem.W.keepIn K (.ref (He.ga K "_law_great")) = true := (v.c.def_ 3 (d := d__law_great) rfl).elim fun _ F => F.kp
theorem b__law_great (v : Ev K mg base) (cdv : Value) (A : Around) (outer : List Env) (s : Shared) (H : Hp) (E : XK) (hr : TS.Room 1 (A.deeper (PyProof.Rows.envOfC "_law_great" (defScope (top 27)) s.heap.objs.size (He.ga K "_law_great") cdv))) (tk : Takes (cxOf (L2.CX P w) P w K mg base ["_law_pot_here", "_law_number"] "_law_great" (defScope (top 27)) (He.ga K "_law_great") cdv A outer s H E) (fun cls d _ H => E cls d H))
    (hp : PassesOwn (model P w) (A.deeper (PyProof.Rows.envOfC "_law_great" (defScope (top 27)) s.heap.objs.size (He.ga K "_law_great") cdv)) (PyProof.Rows.envOfC "_law_great" (defScope (top 27)) s.heap.objs.size (He.ga K "_law_great") cdv) (cxOf (L2.CX P w) P w K mg base ["_law_pot_here", "_law_number"] "_law_great" (defScope (top 27)) (He.ga K "_law_great") cdv A outer s H E).xe) : DSs (MM K) (fun cls d _ H => E cls d H) (cxOf (L2.CX P w) P w K mg base ["_law_pot_here", "_law_number"] "_law_great" (defScope (top 27)) (He.ga K "_law_great") cdv A outer s H E) (defBody (top 27)) g__law_great :=
  (dss_cons (ds_set (i := 1) S__law_great.nd (by rfl) (by first | exact Or.inl rfl | exact Or.inr rfl) (x_add (DE.frz (x_add (DE.frz (x_mul (DE.frz (d_ownIo (fun h => pe_own ((f__law_draw v).mono (by decide)) hr tk (by rfl) (u__law_draw v) (kp__law_draw v) h) (pv 0) (da_cons (DE.frz (x_pow di_int (DI.pk di_int))) da_nil))) (DE.pk (x_pow di_int (DI.pk di_int))))) (DE.pk (x_mul (DE.frz (d_ownIo (fun h => pe_own ((f__law_draw v).mono (by decide)) hr tk (by rfl) (u__law_draw v) (kp__law_draw v) h) (pv 0) (da_cons (DE.frz (x_pow di_int (DI.pk di_int))) da_nil))) (DE.pk (x_pow di_int (DI.pk di_int))))))) (DE.pk (d_ownIo (fun h => pe_own ((f__law_draw v).mono (by decide)) hr tk (by rfl) (u__law_draw v) (kp__law_draw v) h) (pv 0) (da_cons (DE.frz (x_pow di_int (DI.pk di_int))) da_nil)))))
    (dss_one (ds_ret (x_ix hr (DE.frz (de_lst (da_cons (di_var (pv 1)) (da_cons (DE.frz (x_sub di_int (dp_var (pv 1)))) da_nil)))) (DE.pk (d_ownIo (fun h => pe_own ((f__law_draw v).mono (by decide)) hr tk (by rfl) (u__law_draw v) (kp__law_draw v) h) (pv 0) (da_cons di_int da_nil)))))))
def m__law_great : Fm := mir 2 1 g__law_great
theorem o__law_great (v : Ev K mg base) : ∃ fd, FunD K "_law_great" "_law_great" (defArgs (top 27)) (defBody (top 27)) (defScope (top 27)) [] [] (He.ga K "_law_great") fd ∧ TS.FnOk P w K mg base (L2.CX P w) 2 (He.ga K "_law_great") fd ["_law_pot_here"] (spD (MM K) m__law_great) := by
  obtain ⟨fd, F⟩ := v.c.def_ 3 (d := d__law_great) rfl
  exact ⟨fd, F, funD_mir (M := MM K) F S__law_great (by decide) (fun cdv A outer s H E hr tk hp => b__law_great v cdv A outer s H E hr tk hp)⟩
theorem f__law_great (v : Ev K mg base) : TS.FnR P w K mg base (L2.CX P w) 2 (He.ga K "_law_great") (spD (MM K) m__law_great) := by
  obtain ⟨fd, F, O⟩ := o__law_great (P := P) (w := w) v
  exact fnR_raw (M := MM K) O (F.bindsN (ps := ["_law_pot_here"]) fun _ _ _ _ _ _ us hl => match us, hl with | [_], _ => rfl)
/-! _law_table -/
abbrev g__law_table_1 : FS := (sPar 4 5 (fOwnIo m__law_shuffled 0 (aCons (frz (fLRg1 (vI 1))) aNil)) (fLst aNil))
abbrev g__law_table_2_1 : FS := (sAsg (fBin gSub (frz (fOwnIo m__law_draw 0 (aCons (kD (.int 5)) aNil))) (kD (.int 2))) (tName 6))
abbrev g__law_table_2_2a_1 : FS := (sAsg (fOwnIo m__law_great 0 aNil) (tName 6))
abbrev g__law_table_2_2 : FS := (sIf (fAnd (fTst (fBin gEq (vI 2) (kD (.int 2)))) (fTst (fBin gEq (frz (fOwnIo m__law_draw 0 (aCons (kD (.int 3)) aNil))) (kD (.int 0))))) g__law_table_2_2a_1 sNil)
abbrev g__law_table_2_3 : FS := (sExpr (toE (fMut 5 mAppend (aCons (frz (fBin gAdd (frz (fBin gSub (frz (fBin gIx (vI 4) (vP 3))) (vP 3))) (frz (fBin gMul (frz (fBin gMul (vI 1) (vP 6))) (frz (fCal gInt (aOne (frz (fBin gGt (vI 2) (kD (.int 0))))))))))) aNil))))
abbrev g__law_table_2B : FS := (sSeq g__law_table_2_1 (sSeq g__law_table_2_2 g__law_table_2_3))
abbrev g__law_table_2 : FS := (sFor (itRg1 (vI 1)) (tName 3) g__law_table_2B)
abbrev g__law_table_3 : FS := (sRet (vR 5))
def g__law_table : FS := (sSeq g__law_table_1 (sSeq g__law_table_2 g__law_table_3))
theorem S__law_table : FnScope ["_law_pot_here", "_law_many", "_law_wide", "_law_place_here", "_law_goals", "_law_found", "_law_turns"] ["_law_pot_here", "_law_many", "_law_wide"] (defScope (top 29)) := ⟨rfl, rfl, rfl, by decide +kernel, rfl, by decide +kernel, by decide +kernel⟩
theorem kp__law_table (v : Ev K mg base) : PySem.W.keepIn K (.ref (He.ga K "_law_table")) = true := (v.c.def_ 4 (d := d__law_table) rfl).elim fun _ F => F.kp
theorem b__law_table (v : Ev K mg base) (cdv : Value) (A : Around) (outer : List Env) (s : Shared) (H : Hp) (E : XK) (hr : TS.Room 2 (A.deeper (PyProof.Rows.envOfC "_law_table" (defScope (top 29)) s.heap.objs.size (He.ga K "_law_table") cdv))) (tk : Takes (cxOf (L2.CX P w) P w K mg base ["_law_pot_here", "_law_many", "_law_wide", "_law_place_here", "_law_goals", "_law_found", "_law_turns"] "_law_table" (defScope (top 29)) (He.ga K "_law_table") cdv A outer s H E) (fun cls d _ H => E cls d H))
    (hp : PassesOwn (model P w) (A.deeper (PyProof.Rows.envOfC "_law_table" (defScope (top 29)) s.heap.objs.size (He.ga K "_law_table") cdv)) (PyProof.Rows.envOfC "_law_table" (defScope (top 29)) s.heap.objs.size (He.ga K "_law_table") cdv) (cxOf (L2.CX P w) P w K mg base ["_law_pot_here", "_law_many", "_law_wide", "_law_place_here", "_law_goals", "_law_found", "_law_turns"] "_law_table" (defScope (top 29)) (He.ga K "_law_table") cdv A outer s H E).xe) : DSs (MM K) (fun cls d _ H => E cls d H) (cxOf (L2.CX P w) P w K mg base ["_law_pot_here", "_law_many", "_law_wide", "_law_place_here", "_law_goals", "_law_found", "_law_turns"] "_law_table" (defScope (top 29)) (He.ga K "_law_table") cdv A outer s H E) (defBody (top 29)) g__law_table :=
  (dss_cons (ds_par (i := 4) (j := 5) (by rfl) S__law_table.nd (by rfl) (by rfl) (by decide) (by rfl) (by rfl) (d_ownIo (fun h => pe_own ((f__law_shuffled v).mono (by decide)) hr tk (by rfl) (u__law_shuffled v) (kp__law_shuffled v) h) (pv 0) (da_cons (DE.frz (de_lrg1 (by rfl) (by rfl) (u_list v) (by rfl) (u_range v) (di_var (pv 1)))) da_nil)) (de_lst da_nil) (by rfl))
    (dss_cons (ds_for hp (by rfl) (dit_rg1 (by rfl) (u_range v) (di_var (pv 1))) (dg_name (pg_name S__law_table.nd (by rfl) (by first | exact Or.inl rfl | exact Or.inr rfl))) (tgt_name 3) (dss_cons (ds_set (i := 6) S__law_table.nd (by rfl) (by first | exact Or.inl rfl | exact Or.inr rfl) (x_sub (DE.frz (d_ownIo (fun h => pe_own ((f__law_draw v).mono (by decide)) hr tk (by rfl) (u__law_draw v) (kp__law_draw v) h) (pv 0) (da_cons di_int da_nil))) (DI.pk di_int)))
    (dss_cons (ds_if (DW.pt (dw_and (t_eq hr (di_var (pv 2)) (DI.pk di_int)) (dw_and1 (t_eq hr (DE.frz (d_ownIo (fun h => pe_own ((f__law_draw v).mono (by decide)) hr tk (by rfl) (u__law_draw v) (kp__law_draw v) h) (pv 0) (da_cons di_int da_nil))) (DI.pk di_int))))) (dss_one (ds_set (i := 6) S__law_table.nd (by rfl) (by first | exact Or.inl rfl | exact Or.inr rfl) (d_ownIo (fun h => pe_own ((f__law_great v).mono (by decide)) hr tk (by rfl) (u__law_great v) (kp__law_great v) h) (pv 0) da_nil))) dss_nil)
    (dss_one (ds_expr (DI.toE (m_append (pv 5) (da_cons (DE.frz (x_add (DE.frz (x_sub (DE.frz (x_ix hr (di_var (pv 4)) (dp_var (pv 3)))) (dp_var (pv 3)))) (DE.pk (x_mul (DE.frz (x_mul (di_var (pv 1)) (dp_var (pv 6)))) (DE.pk (b_int (by rfl) (u_int v) (db_one (DE.pk (x_gt (di_var (pv 2)) (DI.pk di_int)))))))))) da_nil))))))))
    (dss_one (ds_ret (de_var (pv 5))))))
def m__law_table : Fm := mir 7 3 g__law_table
theorem o__law_table (v : Ev K mg base) : ∃ fd, FunD K "_law_table" "_law_table" (defArgs (top 29)) (defBody (top 29)) (defScope (top 29)) [] [] (He.ga K "_law_table") fd ∧ TS.FnOk P w K mg base (L2.CX P w) 3 (He.ga K "_law_table") fd ["_law_pot_here", "_law_many", "_law_wide"] (spD (MM K) m__law_table) := by
  obtain ⟨fd, F⟩ := v.c.def_ 4 (d := d__law_table) rfl
  exact ⟨fd, F, funD_mir (M := MM K) F S__law_table (by decide) (fun cdv A outer s H E hr tk hp => b__law_table v cdv A outer s H E hr tk hp)⟩
theorem f__law_table (v : Ev K mg base) : TS.FnR P w K mg base (L2.CX P w) 3 (He.ga K "_law_table") (spD (MM K) m__law_table) := by
  obtain ⟨fd, F, O⟩ := o__law_table (P := P) (w := w) v
  exact fnR_raw (M := MM K) O (F.bindsN (ps := ["_law_pot_here", "_law_many", "_law_wide"]) fun _ _ _ _ _ _ us hl => match us, hl with | [_, _, _], _ => rfl)
def ix_own_offsets : Nat → Option Nat := fun n => match n with
  | 0 => some 0
  | _ => none
theorem F_own_offsets (v : Ev K mg base) : FldT (MM K) "own_offsets" ix_own_offsets := by
  intro n j h
  unfold ix_own_offsets at h
  split at h
  · cases h
    exact ⟨fun C e => by cases e; exact ⟨He.cls_ok (v.c.fact 12 (f := .he (.cls "Plan"))), He.noat_ok (v.c.fact 13 (f := .he (.noat "Plan" "own_offsets")))⟩, rfl, show ("own_offsets" : Str) ∉ (["own_offsets", "own_sources"] : List Str).take 0 from by decide +kernel⟩
  · cases h
/-! least_table -/
abbrev g_least_table_1 : FS := (sAsg (fCal gLen (aOne (vP 0))) (tName 1))
abbrev g_least_table_2_1a_1 : FS := (sRet (fSl (vI 0) oNone (oSome (vI 2))))
abbrev g_least_table_2_1 : FS := (sIf (fAnd (fTst (fBin gEq (frz (fBin gMod (vI 1) (vP 2))) (kD (.int 0)))) (fTst (fBin gEq (frz (fBin gMul (frz (fSl (vI 0) oNone (oSome (vI 2)))) (frz (fBin gFdiv (vI 1) (vP 2))))) (vP 0)))) g_least_table_2_1a_1 sNil)
abbrev g_least_table_2B : FS := g_least_table_2_1
abbrev g_least_table_2 : FS := (sFor (itRg2 (kD (.int 1)) (vI 1)) (tName 2) g_least_table_2B)
abbrev g_least_table_3 : FS := (sRet (vR 0))
def g_least_table : FS := (sSeq g_least_table_1 (sSeq g_least_table_2 g_least_table_3))
theorem S_least_table : FnScope ["offsets", "length", "period"] ["offsets"] (defScope (top 15)) := ⟨rfl, rfl, rfl, by decide +kernel, rfl, by decide +kernel, by decide +kernel⟩
theorem kp_least_table (v : Ev K mg base) : PySem.W.keepIn K (.ref (He.ga K "least_table")) = true := (v.c.def_ 5 (d := d_least_table) rfl).elim fun _ F => F.kp
theorem b_least_table (v : Ev K mg base) (cdv : Value) (A : Around) (outer : List Env) (s : Shared) (H : Hp) (E : XK) (hr : TS.Room 0 (A.deeper (PyProof.Rows.envOfC "least_table" (defScope (top 15)) s.heap.objs.size (He.ga K "least_table") cdv))) (tk : Takes (cxOf (L2.CX P w) P w K mg base ["offsets", "length", "period"] "least_table" (defScope (top 15)) (He.ga K "least_table") cdv A outer s H E) (fun cls d _ H => E cls d H))
    (hp : PassesOwn (model P w) (A.deeper (PyProof.Rows.envOfC "least_table" (defScope (top 15)) s.heap.objs.size (He.ga K "least_table") cdv)) (PyProof.Rows.envOfC "least_table" (defScope (top 15)) s.heap.objs.size (He.ga K "least_table") cdv) (cxOf (L2.CX P w) P w K mg base ["offsets", "length", "period"] "least_table" (defScope (top 15)) (He.ga K "least_table") cdv A outer s H E).xe) : DSs (MM K) (fun cls d _ H => E cls d H) (cxOf (L2.CX P w) P w K mg base ["offsets", "length", "period"] "least_table" (defScope (top 15)) (He.ga K "least_table") cdv A outer s H E) (defBody (top 15)) g_least_table :=
  (dss_cons (ds_set (i := 1) S_least_table.nd (by rfl) (by first | exact Or.inl rfl | exact Or.inr rfl) (b_len (by rfl) (u_len v) (db_one (dp_var (pv 0)))))
    (dss_cons (ds_for hp (by rfl) (dit_rg2 (by rfl) (u_range v) di_int (di_var (pv 1))) (dg_name (pg_name S_least_table.nd (by rfl) (by first | exact Or.inl rfl | exact Or.inr rfl))) (tgt_name 2) (dss_one (ds_if (DW.pt (dw_and (t_eq hr (DE.frz (x_mod (di_var (pv 1)) (dp_var (pv 2)))) (DI.pk di_int)) (dw_and1 (t_eq hr (DE.frz (x_mul (DE.frz (de_sl (di_var (pv 0)) do_none (do_some (di_var (pv 2))))) (DE.pk (x_fdiv (di_var (pv 1)) (dp_var (pv 2)))))) (dp_var (pv 0)))))) (dss_one (ds_ret (de_sl (di_var (pv 0)) do_none (do_some (di_var (pv 2)))))) dss_nil)))
    (dss_one (ds_ret (de_var (pv 0))))))
def m_least_table : Fm := mir 3 1 g_least_table
theorem o_least_table (v : Ev K mg base) : ∃ fd, FunD K "least_table" "least_table" (defArgs (top 15)) (defBody (top 15)) (defScope (top 15)) [] [] (He.ga K "least_table") fd ∧ TS.FnOk P w K mg base (L2.CX P w) 1 (He.ga K "least_table") fd ["offsets"] (spD (MM K) m_least_table) := by
  obtain ⟨fd, F⟩ := v.c.def_ 5 (d := d_least_table) rfl
  exact ⟨fd, F, funD_mir (M := MM K) F S_least_table (by decide) (fun cdv A outer s H E hr tk hp => b_least_table v cdv A outer s H E hr tk hp)⟩
theorem f_least_table (v : Ev K mg base) : TS.FnR P w K mg base (L2.CX P w) 1 (He.ga K "least_table") (spD (MM K) m_least_table) := by
  obtain ⟨fd, F, O⟩ := o_least_table (P := P) (w := w) v
  exact fnR_raw (M := MM K) O (F.bindsN (ps := ["offsets"]) fun _ _ _ _ _ _ us hl => match us, hl with | [_], _ => rfl)
def is_list_tuple : Tg → Option Bool := tabTy ["list", "tuple"] fun _ => none
theorem is_list_tuple_ok : IsT (MM K) ((["list", "tuple"] : List String).map Value.type) is_list_tuple := isT_own0
theorem ex_InvalidTable (v : Ev K mg base) : OxC K (He.ga K "InvalidTable") ∧ XqC K (He.ga K "InvalidTable") ∧ PySem.W.findIn K (.ref (He.ga K "InvalidTable")) "__init__" = some (some (.ref (He.ma K (He.ga K "InvalidTable") "__init__"))) ∧ PySem.W.typeIn K (.ref (He.ma K (He.ga K "InvalidTable") "__init__")) = some (.type "function") := exc_ok Bas.ve (v.c.fact 17 (f := .exc "InvalidTable" "ValueError"))
theorem S_InvalidTable___init__ : FnScope ["self", "problem", "position", "earlier"] ["self", "problem", "position", "earlier"] (defScope (inClass (top 4) 0)) := ⟨rfl, rfl, rfl, by decide +kernel, rfl, by decide +kernel, by decide +kernel⟩
theorem xd_InvalidTable (v : Ev K mg base) : ∃ fd, TS.FnOk P w K mg base (L2.CX P w) 1 (He.ma K (He.ga K "InvalidTable") "__init__") fd ["self", "problem", "position", "earlier"] (spX (He.ga K "InvalidTable") ["problem", "position", "earlier"]) ∧ Binds K fd ["self", "problem", "position", "earlier"] [] := by
  obtain ⟨fd, F⟩ := v.c.def_ 6 (d := d_InvalidTable___init__) rfl
  exact ⟨fd, funD_ini F S_InvalidTable___init__ (by decide) (fun cdv A outer s H E => (init_body (N := []) (sp0 := ()) (ex_InvalidTable v).1 (He.noat_ok (K := K) (v.c.fact 18 (f := .he (.noat "InvalidTable" "problem")))) rfl (pv 0) (pv 1) (inis_cons (ex_InvalidTable v).1 (He.noat_ok (K := K) (v.c.fact 19 (f := .he (.noat "InvalidTable" "position")))) rfl (pv 0) (pv 2) (by decide) (inis_cons (ex_InvalidTable v).1 (He.noat_ok (K := K) (v.c.fact 20 (f := .he (.noat "InvalidTable" "earlier")))) rfl (pv 0) (pv 3) (by decide) (inis_nil rfl))))), F.bindsN (ps := ["self", "problem", "position", "earlier"]) fun _ _ _ _ _ _ us hl => match us, hl with | [_, _, _, _], _ => rfl⟩
theorem ex_TooLong (v : Ev K mg base) : OxC K (He.ga K "TooLong") ∧ XqC K (He.ga K "TooLong") ∧ PySem.W.findIn K (.ref (He.ga K "TooLong")) "__init__" = some (some (.ref (He.ma K (He.ga K "TooLong") "__init__"))) ∧ PySem.W.typeIn K (.ref (He.ma K (He.ga K "TooLong") "__init__")) = some (.type "function") := exc_ok Bas.ar (v.c.fact 25 (f := .exc "TooLong" "ArithmeticError"))
theorem S_TooLong___init__ : FnScope ["self", "multiple"] ["self", "multiple"] (defScope (inClass (top 6) 0)) := ⟨rfl, rfl, rfl, by decide +kernel, rfl, by decide +kernel, by decide +kernel⟩
theorem xd_TooLong (v : Ev K mg base) : ∃ fd, TS.FnOk P w K mg base (L2.CX P w) 1 (He.ma K (He.ga K "TooLong") "__init__") fd ["self", "multiple"] (spX (He.ga K "TooLong") ["multiple"]) ∧ Binds K fd ["self", "multiple"] [] := by
  obtain ⟨fd, F⟩ := v.c.def_ 7 (d := d_TooLong___init__) rfl
  exact ⟨fd, funD_ini F S_TooLong___init__ (by decide) (fun cdv A outer s H E => (init_body (N := []) (sp0 := ()) (ex_TooLong v).1 (He.noat_ok (K := K) (v.c.fact 26 (f := .he (.noat "TooLong" "multiple")))) rfl (pv 0) (pv 1) (inis_nil rfl))), F.bindsN (ps := ["self", "multiple"]) fun _ _ _ _ _ _ us hl => match us, hl with | [_, _], _ => rfl⟩
def is_bool : Tg → Option Bool := tabTy ["bool"] fun _ => none
theorem is_bool_ok : IsT (MM K) ((["bool"] : List String).map Value.type) is_bool := isT_own0
def is_int : Tg → Option Bool := tabTy ["int"] fun _ => none
theorem is_int_ok : IsT (MM K) ((["int"] : List String).map Value.type) is_int := isT_own0
/-! is_integer -/
abbrev g_is_integer_1 : FS := (sRet (fAndV (fIsi is_int (vP 0)) (toE (fNotV (fIsi is_bool (vP 0))))))
def g_is_integer : FS := g_is_integer_1
theorem S_is_integer : FnScope ["value"] ["value"] (defScope (top 8)) := ⟨rfl, rfl, rfl, by decide +kernel, rfl, by decide +kernel, by decide +kernel⟩
theorem kp_is_integer (v : Ev K mg base) : PySem.W.keepIn K (.ref (He.ga K "is_integer")) = true := (v.c.def_ 8 (d := d_is_integer) rfl).elim fun _ F => F.kp
theorem b_is_integer (v : Ev K mg base) (cdv : Value) (A : Around) (outer : List Env) (s : Shared) (H : Hp) (E : XK) (hr : TS.Room 0 (A.deeper (PyProof.Rows.envOfC "is_integer" (defScope (top 8)) s.heap.objs.size (He.ga K "is_integer") cdv))) (tk : Takes (cxOf (L2.CX P w) P w K mg base ["value"] "is_integer" (defScope (top 8)) (He.ga K "is_integer") cdv A outer s H E) (fun cls d _ H => E cls d H))
    (hp : PassesOwn (model P w) (A.deeper (PyProof.Rows.envOfC "is_integer" (defScope (top 8)) s.heap.objs.size (He.ga K "is_integer") cdv)) (PyProof.Rows.envOfC "is_integer" (defScope (top 8)) s.heap.objs.size (He.ga K "is_integer") cdv) (cxOf (L2.CX P w) P w K mg base ["value"] "is_integer" (defScope (top 8)) (He.ga K "is_integer") cdv A outer s H E).xe) : DSs (MM K) (fun cls d _ H => E cls d H) (cxOf (L2.CX P w) P w K mg base ["value"] "is_integer" (defScope (top 8)) (He.ga K "is_integer") cdv A outer s H E) (defBody (top 8)) g_is_integer :=
  (dss_one (ds_ret (de_and (b_isi (by rfl) (u_isinstance v) (dp_var (pv 0)) (k_ty bt_int (by rfl) (u_int v)) (ClsV.ty "int") is_int_ok) (de_one (DI.toE (di_not (b_isi (by rfl) (u_isinstance v) (dp_var (pv 0)) (k_ty bt_bool (by rfl) (u_bool v)) (ClsV.ty "bool") is_bool_ok)))))))
def m_is_integer : Fm := mir 1 1 g_is_integer
theorem o_is_integer (v : Ev K mg base) : ∃ fd, FunD K "is_integer" "is_integer" (defArgs (top 8)) (defBody (top 8)) (defScope (top 8)) [] [] (He.ga K "is_integer") fd ∧ TS.FnOk P w K mg base (L2.CX P w) 1 (He.ga K "is_integer") fd ["value"] (spD (MM K) m_is_integer) := by
  obtain ⟨fd, F⟩ := v.c.def_ 8 (d := d_is_integer) rfl
  exact ⟨fd, F, funD_mir (M := MM K) F S_is_integer (by decide) (fun cdv A outer s H E hr tk hp => b_is_integer v cdv A outer s H E hr tk hp)⟩
theorem f_is_integer (v : Ev K mg base) : TS.FnR P w K mg base (L2.CX P w) 1 (He.ga K "is_integer") (spD (MM K) m_is_integer) := by
  obtain ⟨fd, F, O⟩ := o_is_integer (P := P) (w := w) v
  exact fnR_raw (M := MM K) O (F.bindsN (ps := ["value"]) fun _ _ _ _ _ _ us hl => match us, hl with | [_], _ => rfl)
/-! checked_table -/
abbrev g_checked_table_1a_1 : FS := (sRaise 102 3 (aCons (kD (.str "table")) (aCons (kD .non) (aCons (kD .non) aNil))))
abbrev g_checked_table_1 : FS := (sIf (fOr (fNot (fTst (toE (fIsi is_list_tuple (vP 0))))) (fTst (fBin gEq (frz (fCal gLen (aOne (vP 0)))) (kD (.int 0))))) g_checked_table_1a_1 sNil)
abbrev g_checked_table_2 : FS := (sAsg (fCal gLen (aOne (vP 0))) (tName 2))
abbrev g_checked_table_3a_1 : FS := (sRaise 115 1 (aCons (vI 2) aNil))
abbrev g_checked_table_3 : FS := (sIf (fTst (fBin gGt (vI 2) (kD (.int 2520)))) g_checked_table_3a_1 sNil)
abbrev g_checked_table_4_1a_1 : FS := (sRaise 102 3 (aCons (kD (.str "integer")) (aCons (vI 4) (aCons (kD .non) aNil))))
abbrev g_checked_table_4_1 : FS := (sIf (fNot (fTst (fOwn m_is_integer (aCons (vI 5) aNil)))) g_checked_table_4_1a_1 sNil)
abbrev g_checked_table_4B : FS := g_checked_table_4_1
abbrev g_checked_table_4 : FS := (sFor (itEnum (vI 0)) (tTup 2 (tsCons (tName 4) (tsCons (tName 5) tsNil))) g_checked_table_4B)
abbrev g_checked_table_5 : FS := (sAsg (fun δ => .ok (.own (.dK [] [])) δ) (tName 3))
abbrev g_checked_table_6_1 : FS := (sAsg (fBin gMod (frz (fBin gAdd (frz (fBin gMul (vI 1) (vP 4))) (vP 5))) (vP 2)) (tName 6))
abbrev g_checked_table_6_2a_1 : FS := (sRaise 102 3 (aCons (kD (.str "meeting")) (aCons (vI 4) (aCons (frz (fBinV gIx 3 (vP 6))) aNil))))
abbrev g_checked_table_6_2 : FS := (sIf (fTst (fBin gIn (vI 6) (vP 3))) g_checked_table_6_2a_1 sNil)
abbrev g_checked_table_6_3 : FS := (sAsg (toE (vI 4)) (tSub 3 (vI 6)))
abbrev g_checked_table_6B : FS := (sSeq g_checked_table_6_1 (sSeq g_checked_table_6_2 g_checked_table_6_3))
abbrev g_checked_table_6 : FS := (sFor (itEnum (vI 0)) (tTup 2 (tsCons (tName 4) (tsCons (tName 5) tsNil))) g_checked_table_6B)
abbrev g_checked_table_7 : FS := (sRet (fCal gList (aOne (vP 0))))
def g_checked_table : FS := (sSeq g_checked_table_1 (sSeq g_checked_table_2 (sSeq g_checked_table_3 (sSeq g_checked_table_4 (sSeq g_checked_table_5 (sSeq g_checked_table_6 g_checked_table_7))))))
theorem S_checked_table : FnScope ["offsets", "sign", "period", "first", "position", "offset", "remainder"] ["offsets", "sign"] (defScope (top 14)) := ⟨rfl, rfl, rfl, by decide +kernel, rfl, by decide +kernel, by decide +kernel⟩
theorem kp_checked_table (v : Ev K mg base) : PySem.W.keepIn K (.ref (He.ga K "checked_table")) = true := (v.c.def_ 9 (d := d_checked_table) rfl).elim fun _ F => F.kp
theorem b_checked_table (v : Ev K mg base) (cdv : Value) (A : Around) (outer : List Env) (s : Shared) (H : Hp) (E : XK) (hr : TS.Room 2 (A.deeper (PyProof.Rows.envOfC "checked_table" (defScope (top 14)) s.heap.objs.size (He.ga K "checked_table") cdv))) (tk : Takes (cxOf (L2.CX P w) P w K mg base ["offsets", "sign", "period", "first", "position", "offset", "remainder"] "checked_table" (defScope (top 14)) (He.ga K "checked_table") cdv A outer s H E) (fun cls d _ H => E cls d H))
    (hp : PassesOwn (model P w) (A.deeper (PyProof.Rows.envOfC "checked_table" (defScope (top 14)) s.heap.objs.size (He.ga K "checked_table") cdv)) (PyProof.Rows.envOfC "checked_table" (defScope (top 14)) s.heap.objs.size (He.ga K "checked_table") cdv) (cxOf (L2.CX P w) P w K mg base ["offsets", "sign", "period", "first", "position", "offset", "remainder"] "checked_table" (defScope (top 14)) (He.ga K "checked_table") cdv A outer s H E).xe) : DSs (MM K) (fun cls d _ H => E cls d H) (cxOf (L2.CX P w) P w K mg base ["offsets", "sign", "period", "first", "position", "offset", "remainder"] "checked_table" (defScope (top 14)) (He.ga K "checked_table") cdv A outer s H E) (defBody (top 14)) g_checked_table :=
  (dss_cons (ds_if (DW.pt (dw_or (dt_not (dt_val (DI.toE (b_isiT (vs := [V.ty "list", V.ty "tuple"]) (by rfl) (u_isinstance v) (dp_var (pv 0)) (pa_cons (k_ty bt_list (by rfl) (u_list v)) (pa_cons (k_ty bt_tuple (by rfl) (u_tuple v)) pa_nil)) (fun σ H Q h => h) (Paired.cons (ClsV.ty "list") (Paired.cons (ClsV.ty "tuple") Paired.nil)) (by decide) is_list_tuple_ok)))) (dw_or1 (t_eq hr (DE.frz (b_len (by rfl) (u_len v) (db_one (dp_var (pv 0))))) (DI.pk di_int))))) (dss_one (Exists.elim (xd_InvalidTable (P := P) (w := w) v) fun _ h => ds_raise (n := 102) (ns := ["problem", "position", "earlier"]) rfl rfl rfl (ex_InvalidTable v).1 (ex_InvalidTable v).2.2.1 (ex_InvalidTable v).2.2.2 h.1 hr (by decide) (by decide) h.2 (by rfl) tk (by rfl) (u_InvalidTable v) (da_cons di_str (da_cons di_non (da_cons di_non da_nil))))) dss_nil)
    (dss_cons (ds_set (i := 2) S_checked_table.nd (by rfl) (by first | exact Or.inl rfl | exact Or.inr rfl) (b_len (by rfl) (u_len v) (db_one (dp_var (pv 0)))))
    (dss_cons (ds_if (t_gt (di_var (pv 2)) (DI.pk (Exists.elim (cint_ok (v.c.fact 23 (f := .cint "Move" "MAX_PERIOD" 2520))) fun _ hu => di_cval (pe_glob (by rfl) (u_Move v) (by rfl)) (cread_ok (v.c.fact 22 (f := .cread "Move"))) hu fun F => rep_int' _))) (dss_one (Exists.elim (xd_TooLong (P := P) (w := w) v) fun _ h => ds_raise (n := 115) (ns := ["multiple"]) rfl rfl rfl (ex_TooLong v).1 (ex_TooLong v).2.2.1 (ex_TooLong v).2.2.2 h.1 hr (by decide) (by decide) h.2 (by rfl) tk (by rfl) (u_TooLong v) (da_cons (di_var (pv 2)) da_nil))) dss_nil)
    (dss_cons (ds_for hp (by rfl) (dit_enum (by rfl) (u_enumerate v) (di_var (pv 0))) (dg_tup (by rfl) (dgs_cons (dg_name (pg_name S_checked_table.nd (by rfl) (by first | exact Or.inl rfl | exact Or.inr rfl))) (dgs_cons (dg_name (pg_name S_checked_table.nd (by rfl) (by first | exact Or.inl rfl | exact Or.inr rfl))) dgs_nil))) (tgt_tup (tgs_cons (tgt_name 4) (tgs_cons (tgt_name 5) tgs_nil))) (dss_one (ds_if (dt_not (dt_val (d_own (fun h => pe_own ((f_is_integer v).mono (by decide)) hr tk (by rfl) (u_is_integer v) (kp_is_integer v) h) (da_cons (di_var (pv 5)) da_nil)))) (dss_one (Exists.elim (xd_InvalidTable (P := P) (w := w) v) fun _ h => ds_raise (n := 102) (ns := ["problem", "position", "earlier"]) rfl rfl rfl (ex_InvalidTable v).1 (ex_InvalidTable v).2.2.1 (ex_InvalidTable v).2.2.2 h.1 hr (by decide) (by decide) h.2 (by rfl) tk (by rfl) (u_InvalidTable v) (da_cons di_str (da_cons (di_var (pv 4)) (da_cons di_non da_nil))))) dss_nil)))
    (dss_cons (ds_set (i := 3) S_checked_table.nd (by rfl) (by first | exact Or.inl rfl | exact Or.inr rfl) de_dnew)
    (dss_cons (ds_for hp (by rfl) (dit_enum (by rfl) (u_enumerate v) (di_var (pv 0))) (dg_tup (by rfl) (dgs_cons (dg_name (pg_name S_checked_table.nd (by rfl) (by first | exact Or.inl rfl | exact Or.inr rfl))) (dgs_cons (dg_name (pg_name S_checked_table.nd (by rfl) (by first | exact Or.inl rfl | exact Or.inr rfl))) dgs_nil))) (tgt_tup (tgs_cons (tgt_name 4) (tgs_cons (tgt_name 5) tgs_nil))) (dss_cons (ds_set (i := 6) S_checked_table.nd (by rfl) (by first | exact Or.inl rfl | exact Or.inr rfl) (x_mod (DE.frz (x_add (DE.frz (x_mul (di_var (pv 1)) (dp_var (pv 4)))) (dp_var (pv 5)))) (dp_var (pv 2))))
    (dss_cons (ds_if (t_in hr (di_var (pv 6)) (dp_var (pv 3))) (dss_one (Exists.elim (xd_InvalidTable (P := P) (w := w) v) fun _ h => ds_raise (n := 102) (ns := ["problem", "position", "earlier"]) rfl rfl rfl (ex_InvalidTable v).1 (ex_InvalidTable v).2.2.1 (ex_InvalidTable v).2.2.2 h.1 hr (by decide) (by decide) h.2 (by rfl) tk (by rfl) (u_InvalidTable v) (da_cons di_str (da_cons (di_var (pv 4)) (da_cons (DE.frz (x_ixV hr (pv 3) (dp_var (pv 6)))) da_nil))))) dss_nil)
    (dss_one (ds_asg (DI.toE (di_var (pv 4))) (dg_sub (pv 3) (di_var (pv 6)) (hu_of hr)) tgt_sub)))))
    (dss_one (ds_ret (b_list (by rfl) (u_list v) (db_one (dp_var (pv 0))))))))))))
def m_checked_table : Fm := mir 7 2 g_checked_table
theorem o_checked_table (v : Ev K mg base) : ∃ fd, FunD K "checked_table" "checked_table" (defArgs (top 14)) (defBody (top 14)) (defScope (top 14)) [] [] (He.ga K "checked_table") fd ∧ TS.FnOk P w K mg base (L2.CX P w) 3 (He.ga K "checked_table") fd ["offsets", "sign"] (spD (MM K) m_checked_table) := by
  obtain ⟨fd, F⟩ := v.c.def_ 9 (d := d_checked_table) rfl
  exact ⟨fd, F, funD_mir (M := MM K) F S_checked_table (by decide) (fun cdv A outer s H E hr tk hp => b_checked_table v cdv A outer s H E hr tk hp)⟩
theorem f_checked_table (v : Ev K mg base) : TS.FnR P w K mg base (L2.CX P w) 3 (He.ga K "checked_table") (spD (MM K) m_checked_table) := by
  obtain ⟨fd, F, O⟩ := o_checked_table (P := P) (w := w) v
  exact fnR_raw (M := MM K) O (F.bindsN (ps := ["offsets", "sign"]) fun _ _ _ _ _ _ us hl => match us, hl with | [_, _], _ => rfl)
def ix_own_sources : Nat → Option Nat := fun n => match n with
  | 0 => some 1
  | _ => none
theorem F_own_sources (v : Ev K mg base) : FldT (MM K) "own_sources" ix_own_sources := by
  intro n j h
  unfold ix_own_sources at h
  split at h
  · cases h
    exact ⟨fun C e => by cases e; exact ⟨He.cls_ok (v.c.fact 12 (f := .he (.cls "Plan"))), He.noat_ok (v.c.fact 35 (f := .he (.noat "Plan" "own_sources")))⟩, rfl, show ("own_sources" : Str) ∉ (["own_offsets", "own_sources"] : List Str).take 1 from by decide +kernel⟩
  · cases h
/-! sources_of -/
abbrev g_sources_of_1 : FS := (sAsg (fLc (stName 3) [3] (itSeq (vI 0)) tTrue (kD (.int 0))) (tName 1))
abbrev g_sources_of_2_1 : FS := (sAsg (toE (vI 2)) (tSub 1 (frz (fBin gMod (frz (fBin gAdd (vI 2) (vP 3))) (frz (fCal gLen (aOne (vP 0))))))))
abbrev g_sources_of_2B : FS := g_sources_of_2_1
abbrev g_sources_of_2 : FS := (sFor (itEnum (vI 0)) (tTup 2 (tsCons (tName 2) (tsCons (tName 3) tsNil))) g_sources_of_2B)
abbrev g_sources_of_3 : FS := (sRet (vR 1))
def g_sources_of : FS := (sSeq g_sources_of_1 (sSeq g_sources_of_2 g_sources_of_3))
theorem S_sources_of : FnScope ["offsets", "found", "place", "offset"] ["offsets"] (defScope (top 20)) := ⟨rfl, rfl, rfl, by decide +kernel, rfl, by decide +kernel, by decide +kernel⟩
theorem kp_sources_of (v : Ev K mg base) : PySem.W.keepIn K (.ref (He.ga K "sources_of")) = true := (v.c.def_ 10 (d := d_sources_of) rfl).elim fun _ F => F.kp
theorem b_sources_of (v : Ev K mg base) (cdv : Value) (A : Around) (outer : List Env) (s : Shared) (H : Hp) (E : XK) (hr : TS.Room 0 (A.deeper (PyProof.Rows.envOfC "sources_of" (defScope (top 20)) s.heap.objs.size (He.ga K "sources_of") cdv))) (tk : Takes (cxOf (L2.CX P w) P w K mg base ["offsets", "found", "place", "offset"] "sources_of" (defScope (top 20)) (He.ga K "sources_of") cdv A outer s H E) (fun cls d _ H => E cls d H))
    (hp : PassesOwn (model P w) (A.deeper (PyProof.Rows.envOfC "sources_of" (defScope (top 20)) s.heap.objs.size (He.ga K "sources_of") cdv)) (PyProof.Rows.envOfC "sources_of" (defScope (top 20)) s.heap.objs.size (He.ga K "sources_of") cdv) (cxOf (L2.CX P w) P w K mg base ["offsets", "found", "place", "offset"] "sources_of" (defScope (top 20)) (He.ga K "sources_of") cdv A outer s H E).xe) : DSs (MM K) (fun cls d _ H => E cls d H) (cxOf (L2.CX P w) P w K mg base ["offsets", "found", "place", "offset"] "sources_of" (defScope (top 20)) (He.ga K "sources_of") cdv A outer s H E) (defBody (top 20)) g_sources_of :=
  (dss_cons (ds_setLc (i := 1) (own := [("offset", 3)]) (by rfl) (by rfl) S_sources_of.nd (by rfl) (by rfl) (by rfl) (dit_list (di_var (pv 0))) (blkOk_by (by kernel_rfl)) (st_name 3) (fun _ _ _ _ _ => pg_name S_sources_of.nd (by rfl) (by first | exact Or.inl rfl | exact Or.inr rfl)) (fun _ _ _ _ _ => pts_no) (fun _ _ _ _ _ => di_int))
    (dss_cons (ds_for hp (by rfl) (dit_enum (by rfl) (u_enumerate v) (di_var (pv 0))) (dg_tup (by rfl) (dgs_cons (dg_name (pg_name S_sources_of.nd (by rfl) (by first | exact Or.inl rfl | exact Or.inr rfl))) (dgs_cons (dg_name (pg_name S_sources_of.nd (by rfl) (by first | exact Or.inl rfl | exact Or.inr rfl))) dgs_nil))) (tgt_tup (tgs_cons (tgt_name 2) (tgs_cons (tgt_name 3) tgs_nil))) (dss_one (ds_asg (DI.toE (di_var (pv 2))) (dg_sub (pv 1) (DE.frz (x_mod (DE.frz (x_add (di_var (pv 2)) (dp_var (pv 3)))) (DE.pk (b_len (by rfl) (u_len v) (db_one (dp_var (pv 0))))))) (hu_of hr)) tgt_sub)))
    (dss_one (ds_ret (de_var (pv 1))))))
def m_sources_of : Fm := mir 4 1 g_sources_of
theorem o_sources_of (v : Ev K mg base) : ∃ fd, FunD K "sources_of" "sources_of" (defArgs (top 20)) (defBody (top 20)) (defScope (top 20)) [] [] (He.ga K "sources_of") fd ∧ TS.FnOk P w K mg base (L2.CX P w) 1 (He.ga K "sources_of") fd ["offsets"] (spD (MM K) m_sources_of) := by
  obtain ⟨fd, F⟩ := v.c.def_ 10 (d := d_sources_of) rfl
  exact ⟨fd, F, funD_mir (M := MM K) F S_sources_of (by decide) (fun cdv A outer s H E hr tk hp => b_sources_of v cdv A outer s H E hr tk hp)⟩
theorem f_sources_of (v : Ev K mg base) : TS.FnR P w K mg base (L2.CX P w) 1 (He.ga K "sources_of") (spD (MM K) m_sources_of) := by
  obtain ⟨fd, F, O⟩ := o_sources_of (P := P) (w := w) v
  exact fnR_raw (M := MM K) O (F.bindsN (ps := ["offsets"]) fun _ _ _ _ _ _ us hl => match us, hl with | [_], _ => rfl)
/-! Plan.__init__ -/
abbrev g_Plan___init___1 : FS := (sFldS 0 ix_own_offsets (frz (fOwn m_least_table (aCons (frz (fOwn m_checked_table (aCons (vI 1) (aCons (kD (.int 1)) aNil)))) aNil))))
abbrev g_Plan___init___2 : FS := (sFldS 0 ix_own_sources (frz (fOwn m_sources_of (aCons (fFld ix_own_offsets (vP 0)) aNil))))
def g_Plan___init__ : FS := (sSeq g_Plan___init___1 g_Plan___init___2)
theorem S_Plan___init__ : FnScope ["self", "offsets"] ["self", "offsets"] (defScope (inClass (top 21) 1)) := ⟨rfl, rfl, rfl, by decide +kernel, rfl, by decide +kernel, by decide +kernel⟩
theorem kp_Plan___init__ (v : Ev K mg base) : PySem.W.keepIn K (.ref (He.ma K (He.ga K "Plan") "__init__")) = true := (v.c.def_ 11 (d := d_Plan___init__) rfl).elim fun _ F => F.kp
theorem b_Plan___init__ (v : Ev K mg base) (cdv : Value) (A : Around) (outer : List Env) (s : Shared) (H : Hp) (E : XK) (hr : TS.Room 3 (A.deeper (PyProof.Rows.envOfC "Plan.__init__" (defScope (inClass (top 21) 1)) s.heap.objs.size (He.ma K (He.ga K "Plan") "__init__") cdv))) (tk : Takes (cxOf (L2.CX P w) P w K mg base ["self", "offsets"] "Plan.__init__" (defScope (inClass (top 21) 1)) (He.ma K (He.ga K "Plan") "__init__") cdv A outer s H E) (fun cls d _ H => E cls d H))
    (hp : PassesOwn (model P w) (A.deeper (PyProof.Rows.envOfC "Plan.__init__" (defScope (inClass (top 21) 1)) s.heap.objs.size (He.ma K (He.ga K "Plan") "__init__") cdv)) (PyProof.Rows.envOfC "Plan.__init__" (defScope (inClass (top 21) 1)) s.heap.objs.size (He.ma K (He.ga K "Plan") "__init__") cdv) (cxOf (L2.CX P w) P w K mg base ["self", "offsets"] "Plan.__init__" (defScope (inClass (top 21) 1)) (He.ma K (He.ga K "Plan") "__init__") cdv A outer s H E).xe) : DSs (MM K) (fun cls d _ H => E cls d H) (cxOf (L2.CX P w) P w K mg base ["self", "offsets"] "Plan.__init__" (defScope (inClass (top 21) 1)) (He.ma K (He.ga K "Plan") "__init__") cdv A outer s H E) (defBody (inClass (top 21) 1)) g_Plan___init__ :=
  (dss_cons (ds_fld (F_own_offsets v) nm_lt (pv 0) (DE.frz (d_own (fun h => pe_own ((f_least_table v).mono (by decide)) hr tk (by rfl) (u_least_table v) (kp_least_table v) h) (da_cons (DE.frz (d_own (fun h => pe_own ((f_checked_table v).mono (by decide)) hr tk (by rfl) (u_checked_table v) (kp_checked_table v) h) (da_cons (di_var (pv 1)) (da_cons (Exists.elim (cint_ok (v.c.fact 33 (f := .cint "Plan" "SIGN" 1))) fun _ hu => di_cval (pe_glob (by rfl) (u_Plan v) (by rfl)) (cread_ok (v.c.fact 32 (f := .cread "Plan"))) hu fun F => rep_int' _) da_nil)))) da_nil))))
    (dss_one (ds_fld (F_own_sources v) nm_lt (pv 0) (DE.frz (d_own (fun h => pe_own ((f_sources_of v).mono (by decide)) hr tk (by rfl) (u_sources_of v) (kp_sources_of v) h) (da_cons (di_fld (F_own_offsets v) (dp_var (pv 0))) da_nil))))))
def m_Plan___init__ : Fm := mir 2 2 g_Plan___init__
theorem o_Plan___init__ (v : Ev K mg base) : ∃ fd, FunD K "__init__" "Plan.__init__" (defArgs (inClass (top 21) 1)) (defBody (inClass (top 21) 1)) (defScope (inClass (top 21) 1)) [] [] (He.ma K (He.ga K "Plan") "__init__") fd ∧ TS.FnOk P w K mg base (L2.CX P w) 4 (He.ma K (He.ga K "Plan") "__init__") fd ["self", "offsets"] (spD (MM K) m_Plan___init__) := by
  obtain ⟨fd, F⟩ := v.c.def_ 11 (d := d_Plan___init__) rfl
  exact ⟨fd, F, funD_mir (M := MM K) F S_Plan___init__ (by decide) (fun cdv A outer s H E hr tk hp => b_Plan___init__ v cdv A outer s H E hr tk hp)⟩
theorem f_Plan___init__ (v : Ev K mg base) : TS.FnR P w K mg base (L2.CX P w) 4 (He.ma K (He.ga K "Plan") "__init__") (spD (MM K) m_Plan___init__) := by
  obtain ⟨fd, F, O⟩ := o_Plan___init__ (P := P) (w := w) v
  exact fnR_raw (M := MM K) O (F.bindsN (ps := ["self", "offsets"]) fun _ _ _ _ _ _ us hl => match us, hl with | [_, _], _ => rfl)
/-! Plan.identity -/
abbrev g_Plan_identity_1 : FS := (sRet (fMakeL 0 0 m_Plan___init__ (aCons (frz (fLst (aCons (kD (.int 0)) aNil))) aNil)))
def g_Plan_identity : FS := g_Plan_identity_1
theorem S_Plan_identity : FnScope ["cls"] ["cls"] (defScope (inClass (top 21) 2)) := ⟨rfl, rfl, rfl, by decide +kernel, rfl, by decide +kernel, by decide +kernel⟩
theorem kp_Plan_identity (v : Ev K mg base) : PySem.W.keepIn K (.ref (uA "classmethod" "Plan" "identity" K)) = true := (v.c.def_ 12 (d := d_Plan_identity) rfl).elim fun _ F => F.kp
theorem b_Plan_identity (v : Ev K mg base) (cdv : Value) (A : Around) (outer : List Env) (s : Shared) (H : Hp) (E : XK) (hr : TS.Room 5 (A.deeper (PyProof.Rows.envOfC "Plan.identity" (defScope (inClass (top 21) 2)) s.heap.objs.size (uA "classmethod" "Plan" "identity" K) cdv))) (tk : Takes (cxOf (L2.CX P w) P w K mg base ["cls"] "Plan.identity" (defScope (inClass (top 21) 2)) (uA "classmethod" "Plan" "identity" K) cdv A outer s H E) (fun cls d _ H => E cls d H))
    (hp : PassesOwn (model P w) (A.deeper (PyProof.Rows.envOfC "Plan.identity" (defScope (inClass (top 21) 2)) s.heap.objs.size (uA "classmethod" "Plan" "identity" K) cdv)) (PyProof.Rows.envOfC "Plan.identity" (defScope (inClass (top 21) 2)) s.heap.objs.size (uA "classmethod" "Plan" "identity" K) cdv) (cxOf (L2.CX P w) P w K mg base ["cls"] "Plan.identity" (defScope (inClass (top 21) 2)) (uA "classmethod" "Plan" "identity" K) cdv A outer s H E).xe) : DSs (MM K) (fun cls d _ H => E cls d H) (cxOf (L2.CX P w) P w K mg base ["cls"] "Plan.identity" (defScope (inClass (top 21) 2)) (uA "classmethod" "Plan" "identity" K) cdv A outer s H E) (defBody (inClass (top 21) 2)) g_Plan_identity :=
  (dss_one (ds_ret (d_makeL (fun h => pe_makeL (i := 0) (He.mkr_ok (v.c.fact 37 (f := .he (.mkr "Plan")))) ((f_Plan___init__ v).mono (by decide)) (hr.mono (by decide : 5 ≤ 5)) tk (by rfl) (Or.inl (by rfl)) h) rfl (da_cons (DE.frz (de_lst (da_cons di_int da_nil))) da_nil))))
def m_Plan_identity : Fm := mir 1 1 g_Plan_identity
theorem o_Plan_identity (v : Ev K mg base) : ∃ fd, FunD K "identity" "Plan.identity" (defArgs (inClass (top 21) 2)) (defBody (inClass (top 21) 2)) (defScope (inClass (top 21) 2)) [] [] (uA "classmethod" "Plan" "identity" K) fd ∧ TS.FnOk P w K mg base (L2.CX P w) 6 (uA "classmethod" "Plan" "identity" K) fd ["cls"] (spD (MM K) m_Plan_identity) := by
  obtain ⟨fd, F⟩ := v.c.def_ 12 (d := d_Plan_identity) rfl
  exact ⟨fd, F, funD_mir (M := MM K) F S_Plan_identity (by decide) (fun cdv A outer s H E hr tk hp => b_Plan_identity v cdv A outer s H E hr tk hp)⟩
theorem f_Plan_identity (v : Ev K mg base) : TS.FnR P w K mg base (L2.CX P w) 6 (uA "classmethod" "Plan" "identity" K) (spD (MM K) m_Plan_identity) := by
  obtain ⟨fd, F, O⟩ := o_Plan_identity (P := P) (w := w) v
  exact fnR_raw (M := MM K) O (F.bindsN (ps := ["cls"]) fun _ _ _ _ _ _ us hl => match us, hl with | [_], _ => rfl)
/-! _law_place -/
abbrev g__law_place_1 : FS := (sAsg (fOwnIo m__law_draw 0 (aCons (kD (.int 4)) aNil)) (tName 1))
abbrev g__law_place_2a_1 : FS := (sRet (fBin gIx (frz (fLst (aCons (frz (fBin gSub (frz (fOwnIo m__law_draw 0 (aCons (kD (.int 41)) aNil))) (kD (.int 20)))) (aCons (frz (fBin gSub (frz (fOwnIo m__law_draw 0 (aCons (kD (.int 2001)) aNil))) (kD (.int 1000)))) aNil)))) (vP 1)))
abbrev g__law_place_2 : FS := (sIf (fTst (fBin gLt (vI 1) (kD (.int 2)))) g__law_place_2a_1 sNil)
abbrev g__law_place_3 : FS := (sAsg (fOwnIo m__law_great 0 aNil) (tName 2))
abbrev g__law_place_4a_1 : FS := (sAsg (fBin gAdd (frz (fBin gMul (vI 2) (frz (fBin gPow (kD (.int 10)) (kD (.int 42)))))) (frz (fBin gMul (frz (fOwnIo m__law_great 0 aNil)) (frz (fBin gPow (kD (.int 10)) (kD (.int 21))))))) (tName 2))
abbrev g__law_place_4a_2 : FS := (sAsg (fBin gAdd (vI 2) (frz (fOwnIo m__law_great 0 aNil))) (tName 2))
abbrev g__law_place_4 : FS := (sIf (fTst (fBin gEq (vI 1) (kD (.int 3)))) (sSeq g__law_place_4a_1 g__law_place_4a_2) sNil)
abbrev g__law_place_5 : FS := (sRet (vR 2))
def g__law_place : FS := (sSeq g__law_place_1 (sSeq g__law_place_2 (sSeq g__law_place_3 (sSeq g__law_place_4 g__law_place_5))))
theorem S__law_place : FnScope ["_law_pot_here", "_law_way", "_law_found"] ["_law_pot_here"] (defScope (top 28)) := ⟨rfl, rfl, rfl, by decide +kernel, rfl, by decide +kernel, by decide +kernel⟩
theorem kp__law_place (v : Ev K mg base) : PySem.W.keepIn K (.ref (He.ga K "_law_place")) = true := (v.c.def_ 13 (d := d__law_place) rfl).elim fun _ F => F.kp
theorem b__law_place (v : Ev K mg base) (cdv : Value) (A : Around) (outer : List Env) (s : Shared) (H : Hp) (E : XK) (hr : TS.Room 2 (A.deeper (PyProof.Rows.envOfC "_law_place" (defScope (top 28)) s.heap.objs.size (He.ga K "_law_place") cdv))) (tk : Takes (cxOf (L2.CX P w) P w K mg base ["_law_pot_here", "_law_way", "_law_found"] "_law_place" (defScope (top 28)) (He.ga K "_law_place") cdv A outer s H E) (fun cls d _ H => E cls d H))
    (hp : PassesOwn (model P w) (A.deeper (PyProof.Rows.envOfC "_law_place" (defScope (top 28)) s.heap.objs.size (He.ga K "_law_place") cdv)) (PyProof.Rows.envOfC "_law_place" (defScope (top 28)) s.heap.objs.size (He.ga K "_law_place") cdv) (cxOf (L2.CX P w) P w K mg base ["_law_pot_here", "_law_way", "_law_found"] "_law_place" (defScope (top 28)) (He.ga K "_law_place") cdv A outer s H E).xe) : DSs (MM K) (fun cls d _ H => E cls d H) (cxOf (L2.CX P w) P w K mg base ["_law_pot_here", "_law_way", "_law_found"] "_law_place" (defScope (top 28)) (He.ga K "_law_place") cdv A outer s H E) (defBody (top 28)) g__law_place :=
  (dss_cons (ds_set (i := 1) S__law_place.nd (by rfl) (by first | exact Or.inl rfl | exact Or.inr rfl) (d_ownIo (fun h => pe_own ((f__law_draw v).mono (by decide)) hr tk (by rfl) (u__law_draw v) (kp__law_draw v) h) (pv 0) (da_cons di_int da_nil)))
    (dss_cons (ds_if (t_lt (di_var (pv 1)) (DI.pk di_int)) (dss_one (ds_ret (x_ix hr (DE.frz (de_lst (da_cons (DE.frz (x_sub (DE.frz (d_ownIo (fun h => pe_own ((f__law_draw v).mono (by decide)) hr tk (by rfl) (u__law_draw v) (kp__law_draw v) h) (pv 0) (da_cons di_int da_nil))) (DI.pk di_int))) (da_cons (DE.frz (x_sub (DE.frz (d_ownIo (fun h => pe_own ((f__law_draw v).mono (by decide)) hr tk (by rfl) (u__law_draw v) (kp__law_draw v) h) (pv 0) (da_cons di_int da_nil))) (DI.pk di_int))) da_nil)))) (dp_var (pv 1))))) dss_nil)
    (dss_cons (ds_set (i := 2) S__law_place.nd (by rfl) (by first | exact Or.inl rfl | exact Or.inr rfl) (d_ownIo (fun h => pe_own ((f__law_great v).mono (by decide)) hr tk (by rfl) (u__law_great v) (kp__law_great v) h) (pv 0) da_nil))
    (dss_cons (ds_if (t_eq hr (di_var (pv 1)) (DI.pk di_int)) (dss_cons (ds_set (i := 2) S__law_place.nd (by rfl) (by first | exact Or.inl rfl | exact Or.inr rfl) (x_add (DE.frz (x_mul (di_var (pv 2)) (DE.pk (x_pow di_int (DI.pk di_int))))) (DE.pk (x_mul (DE.frz (d_ownIo (fun h => pe_own ((f__law_great v).mono (by decide)) hr tk (by rfl) (u__law_great v) (kp__law_great v) h) (pv 0) da_nil)) (DE.pk (x_pow di_int (DI.pk di_int)))))))
    (dss_one (ds_set (i := 2) S__law_place.nd (by rfl) (by first | exact Or.inl rfl | exact Or.inr rfl) (x_add (di_var (pv 2)) (DE.pk (d_ownIo (fun h => pe_own ((f__law_great v).mono (by decide)) hr tk (by rfl) (u__law_great v) (kp__law_great v) h) (pv 0) da_nil)))))) dss_nil)
    (dss_one (ds_ret (de_var (pv 2))))))))
def m__law_place : Fm := mir 3 1 g__law_place
theorem o__law_place (v : Ev K mg base) : ∃ fd, FunD K "_law_place" "_law_place" (defArgs (top 28)) (defBody (top 28)) (defScope (top 28)) [] [] (He.ga K "_law_place") fd ∧ TS.FnOk P w K mg base (L2.CX P w) 3 (He.ga K "_law_place") fd ["_law_pot_here"] (spD (MM K) m__law_place) := by
  obtain ⟨fd, F⟩ := v.c.def_ 13 (d := d__law_place) rfl
  exact ⟨fd, F, funD_mir (M := MM K) F S__law_place (by decide) (fun cdv A outer s H E hr tk hp => b__law_place v cdv A outer s H E hr tk hp)⟩
theorem f__law_place (v : Ev K mg base) : TS.FnR P w K mg base (L2.CX P w) 3 (He.ga K "_law_place") (spD (MM K) m__law_place) := by
  obtain ⟨fd, F, O⟩ := o__law_place (P := P) (w := w) v
  exact fnR_raw (M := MM K) O (F.bindsN (ps := ["_law_pot_here"]) fun _ _ _ _ _ _ us hl => match us, hl with | [_], _ => rfl)
theorem ex_InvalidInteger (v : Ev K mg base) : OxC K (He.ga K "InvalidInteger") ∧ XqC K (He.ga K "InvalidInteger") ∧ PySem.W.findIn K (.ref (He.ga K "InvalidInteger")) "__init__" = some (some (.ref (He.ma K (He.ga K "InvalidInteger") "__init__"))) ∧ PySem.W.typeIn K (.ref (He.ma K (He.ga K "InvalidInteger") "__init__")) = some (.type "function") := exc_ok Bas.ve (v.c.fact 40 (f := .exc "InvalidInteger" "ValueError"))
theorem S_InvalidInteger___init__ : FnScope ["self", "value"] ["self", "value"] (defScope (inClass (top 3) 0)) := ⟨rfl, rfl, rfl, by decide +kernel, rfl, by decide +kernel, by decide +kernel⟩
theorem xd_InvalidInteger (v : Ev K mg base) : ∃ fd, TS.FnOk P w K mg base (L2.CX P w) 1 (He.ma K (He.ga K "InvalidInteger") "__init__") fd ["self", "value"] (spX (He.ga K "InvalidInteger") ["value"]) ∧ Binds K fd ["self", "value"] [] := by
  obtain ⟨fd, F⟩ := v.c.def_ 14 (d := d_InvalidInteger___init__) rfl
  exact ⟨fd, funD_ini F S_InvalidInteger___init__ (by decide) (fun cdv A outer s H E => (init_body (N := []) (sp0 := ()) (ex_InvalidInteger v).1 (He.noat_ok (K := K) (v.c.fact 41 (f := .he (.noat "InvalidInteger" "value")))) rfl (pv 0) (pv 1) (inis_nil rfl))), F.bindsN (ps := ["self", "value"]) fun _ _ _ _ _ _ us hl => match us, hl with | [_, _], _ => rfl⟩
/-! require_integer -/
abbrev g_require_integer_1a_1 : FS := (sRaise 100 1 (aCons (vI 0) aNil))
abbrev g_require_integer_1 : FS := (sIf (fOr (fNot (fTst (fOwn m_is_integer (aCons (vI 0) aNil)))) (fAnd (fTst (fBin gNotN (vI 1) (kD .non))) (fTst (fBin gLt (vI 0) (vP 1))))) g_require_integer_1a_1 sNil)
def g_require_integer : FS := g_require_integer_1
theorem S_require_integer : FnScope ["value", "least"] ["value", "least"] (defScope (top 9)) := ⟨rfl, rfl, rfl, by decide +kernel, rfl, by decide +kernel, by decide +kernel⟩
theorem kp_require_integer (v : Ev K mg base) : PySem.W.keepIn K (.ref (He.ga K "require_integer")) = true := (v.c.def_ 15 (d := d_require_integer) rfl).elim fun _ F => F.kp
theorem b_require_integer (v : Ev K mg base) (cdv : Value) (A : Around) (outer : List Env) (s : Shared) (H : Hp) (E : XK) (hr : TS.Room 2 (A.deeper (PyProof.Rows.envOfC "require_integer" (defScope (top 9)) s.heap.objs.size (He.ga K "require_integer") cdv))) (tk : Takes (cxOf (L2.CX P w) P w K mg base ["value", "least"] "require_integer" (defScope (top 9)) (He.ga K "require_integer") cdv A outer s H E) (fun cls d _ H => E cls d H))
    (hp : PassesOwn (model P w) (A.deeper (PyProof.Rows.envOfC "require_integer" (defScope (top 9)) s.heap.objs.size (He.ga K "require_integer") cdv)) (PyProof.Rows.envOfC "require_integer" (defScope (top 9)) s.heap.objs.size (He.ga K "require_integer") cdv) (cxOf (L2.CX P w) P w K mg base ["value", "least"] "require_integer" (defScope (top 9)) (He.ga K "require_integer") cdv A outer s H E).xe) : DSs (MM K) (fun cls d _ H => E cls d H) (cxOf (L2.CX P w) P w K mg base ["value", "least"] "require_integer" (defScope (top 9)) (He.ga K "require_integer") cdv A outer s H E) (defBody (top 9)) g_require_integer :=
  (dss_one (ds_if (DW.pt (dw_or (dt_not (dt_val (d_own (fun h => pe_own ((f_is_integer v).mono (by decide)) hr tk (by rfl) (u_is_integer v) (kp_is_integer v) h) (da_cons (di_var (pv 0)) da_nil)))) (dw_or1 (DW.pt (dw_and (t_notN (di_var (pv 1)) (DI.pk di_non)) (dw_and1 (t_lt (di_var (pv 0)) (dp_var (pv 1))))))))) (dss_one (Exists.elim (xd_InvalidInteger (P := P) (w := w) v) fun _ h => ds_raise (n := 100) (ns := ["value"]) rfl rfl rfl (ex_InvalidInteger v).1 (ex_InvalidInteger v).2.2.1 (ex_InvalidInteger v).2.2.2 h.1 hr (by decide) (by decide) h.2 (by rfl) tk (by rfl) (u_InvalidInteger v) (da_cons (di_var (pv 0)) da_nil))) dss_nil))
def m_require_integer : Fm := mir 2 2 g_require_integer
theorem o_require_integer (v : Ev K mg base) : ∃ fd, FunD K "require_integer" "require_integer" (defArgs (top 9)) (defBody (top 9)) (defScope (top 9)) [V.non] [] (He.ga K "require_integer") fd ∧ TS.FnOk P w K mg base (L2.CX P w) 3 (He.ga K "require_integer") fd ["value", "least"] (spD (MM K) m_require_integer) := by
  obtain ⟨fd, F⟩ := v.c.def_ 15 (d := d_require_integer) rfl
  exact ⟨fd, F, funD_mir (M := MM K) F S_require_integer (by decide) (fun cdv A outer s H E hr tk hp => b_require_integer v cdv A outer s H E hr tk hp)⟩
theorem f_require_integer (v : Ev K mg base) : TS.FnR P w K mg base (L2.CX P w) 3 (He.ga K "require_integer") (spD (MM K) m_require_integer) := by
  obtain ⟨fd, F, O⟩ := o_require_integer (P := P) (w := w) v
  obtain ⟨ds, hv, hb⟩ := FunD.binds1 (ps := ["value", "least"]) F 2 1 (by intro z; cases z) rfl (fun T kV doc pm an cdv ct us its h1 h2 => match us, its, h1, h2 with | [_, _], [_], _, _ => ⟨_, rfl, rfl⟩)
  cases hv
  exact fnR_raw (M := MM K) O hb
def m_require_integer_d1 : Fm := fmDfl m_require_integer [.non]
theorem f_require_integer_d1 (v : Ev K mg base) : TS.FnR P w K mg base (L2.CX P w) 3 (He.ga K "require_integer") (spD (MM K) m_require_integer_d1) := by
  obtain ⟨fd, F, O⟩ := o_require_integer (P := P) (w := w) v
  obtain ⟨ds, hv, hb⟩ := FunD.binds1 (ps := ["value", "least"]) F 1 0 (by intro z; cases z) rfl (fun T kV doc pm an cdv ct us its h1 h2 => match us, its, h1, h2 with | [_], [_], _, _ => ⟨_, rfl, rfl⟩)
  exact fnR_dfl (M := MM K) (fun F => (reps_cons rep_non' reps_nil)) (O.raw hb hv)
/-! Plan.shift -/
abbrev g_Plan_shift_1 : FS := (sExpr (fOwn m_require_integer_d1 (aCons (vI 1) aNil)))
abbrev g_Plan_shift_2 : FS := (sRet (fMakeL 0 0 m_Plan___init__ (aCons (frz (fLst (aCons (vI 1) aNil))) aNil)))
def g_Plan_shift : FS := (sSeq g_Plan_shift_1 g_Plan_shift_2)
theorem S_Plan_shift : FnScope ["cls", "n"] ["cls", "n"] (defScope (inClass (top 21) 3)) := ⟨rfl, rfl, rfl, by decide +kernel, rfl, by decide +kernel, by decide +kernel⟩
theorem kp_Plan_shift (v : Ev K mg base) : PySem.W.keepIn K (.ref (uA "classmethod" "Plan" "shift" K)) = true := (v.c.def_ 16 (d := d_Plan_shift) rfl).elim fun _ F => F.kp
theorem b_Plan_shift (v : Ev K mg base) (cdv : Value) (A : Around) (outer : List Env) (s : Shared) (H : Hp) (E : XK) (hr : TS.Room 5 (A.deeper (PyProof.Rows.envOfC "Plan.shift" (defScope (inClass (top 21) 3)) s.heap.objs.size (uA "classmethod" "Plan" "shift" K) cdv))) (tk : Takes (cxOf (L2.CX P w) P w K mg base ["cls", "n"] "Plan.shift" (defScope (inClass (top 21) 3)) (uA "classmethod" "Plan" "shift" K) cdv A outer s H E) (fun cls d _ H => E cls d H))
    (hp : PassesOwn (model P w) (A.deeper (PyProof.Rows.envOfC "Plan.shift" (defScope (inClass (top 21) 3)) s.heap.objs.size (uA "classmethod" "Plan" "shift" K) cdv)) (PyProof.Rows.envOfC "Plan.shift" (defScope (inClass (top 21) 3)) s.heap.objs.size (uA "classmethod" "Plan" "shift" K) cdv) (cxOf (L2.CX P w) P w K mg base ["cls", "n"] "Plan.shift" (defScope (inClass (top 21) 3)) (uA "classmethod" "Plan" "shift" K) cdv A outer s H E).xe) : DSs (MM K) (fun cls d _ H => E cls d H) (cxOf (L2.CX P w) P w K mg base ["cls", "n"] "Plan.shift" (defScope (inClass (top 21) 3)) (uA "classmethod" "Plan" "shift" K) cdv A outer s H E) (defBody (inClass (top 21) 3)) g_Plan_shift :=
  (dss_cons (ds_expr (d_own (fun h => pe_own ((f_require_integer_d1 v).mono (by decide)) hr tk (by rfl) (u_require_integer v) (kp_require_integer v) h) (da_cons (di_var (pv 1)) da_nil)))
    (dss_one (ds_ret (d_makeL (fun h => pe_makeL (i := 0) (He.mkr_ok (v.c.fact 37 (f := .he (.mkr "Plan")))) ((f_Plan___init__ v).mono (by decide)) (hr.mono (by decide : 5 ≤ 5)) tk (by rfl) (Or.inl (by rfl)) h) rfl (da_cons (DE.frz (de_lst (da_cons (di_var (pv 1)) da_nil))) da_nil)))))
def m_Plan_shift : Fm := mir 2 2 g_Plan_shift
theorem o_Plan_shift (v : Ev K mg base) : ∃ fd, FunD K "shift" "Plan.shift" (defArgs (inClass (top 21) 3)) (defBody (inClass (top 21) 3)) (defScope (inClass (top 21) 3)) [] [] (uA "classmethod" "Plan" "shift" K) fd ∧ TS.FnOk P w K mg base (L2.CX P w) 6 (uA "classmethod" "Plan" "shift" K) fd ["cls", "n"] (spD (MM K) m_Plan_shift) := by
  obtain ⟨fd, F⟩ := v.c.def_ 16 (d := d_Plan_shift) rfl
  exact ⟨fd, F, funD_mir (M := MM K) F S_Plan_shift (by decide) (fun cdv A outer s H E hr tk hp => b_Plan_shift v cdv A outer s H E hr tk hp)⟩
theorem f_Plan_shift (v : Ev K mg base) : TS.FnR P w K mg base (L2.CX P w) 6 (uA "classmethod" "Plan" "shift" K) (spD (MM K) m_Plan_shift) := by
  obtain ⟨fd, F, O⟩ := o_Plan_shift (P := P) (w := w) v
  exact fnR_raw (M := MM K) O (F.bindsN (ps := ["cls", "n"]) fun _ _ _ _ _ _ us hl => match us, hl with | [_, _], _ => rfl)
def xm_InvalidInteger : Nat → Option Bool := fun n => match n with
  | 100 => some true
  | 102 => some false
  | 115 => some false
  | _ => none
theorem xm_InvalidInteger_ok (v : Ev K mg base) : ∀ k b C, xm_InvalidInteger k = some b → (MM K).G k = some C → PySem.W.exmOne K (.ref C) (.ref (He.ga K "InvalidInteger")) = some b := by
  intro k b C h hG
  unfold xm_InvalidInteger at h
  split at h
  · cases h
    cases hG
    exact exm_ok (v.c.fact 45 (f := .exm "InvalidInteger" "InvalidInteger" true))
  · cases h
    cases hG
    exact exm_ok (v.c.fact 46 (f := .exm "InvalidTable" "InvalidInteger" false))
  · cases h
    cases hG
    exact exm_ok (v.c.fact 47 (f := .exm "TooLong" "InvalidInteger" false))
  · cases h
def xi_ThreeswapsError : Nat → Option Bool := fun n => match n with
  | 100 => some true
  | 102 => some true
  | 115 => some false
  | _ => none
theorem xi_ThreeswapsError_ok (v : Ev K mg base) : ∀ k b C, xi_ThreeswapsError k = some b → (MM K).G k = some C → XqC K C ∧ PySem.W.kitOne K (.ref C) (.ref (He.ga K "ThreeswapsError")) = some b := by
  intro k b C h hG
  unfold xi_ThreeswapsError at h
  split at h
  · cases h
    cases hG
    exact ⟨(ex_InvalidInteger v).2.1, (kit_ok (v.c.fact 48 (f := .kit "InvalidInteger" "ThreeswapsError" true)))⟩
  · cases h
    cases hG
    exact ⟨(ex_InvalidTable v).2.1, (kit_ok (v.c.fact 49 (f := .kit "InvalidTable" "ThreeswapsError" true)))⟩
  · cases h
    cases hG
    exact ⟨(ex_TooLong v).2.1, (kit_ok (v.c.fact 50 (f := .kit "TooLong" "ThreeswapsError" false)))⟩
  · cases h
def xi_InvalidTable_LimitError : Nat → Option Bool := fun n => match n with
  | 100 => some false
  | 102 => some true
  | 115 => some true
  | _ => none
theorem xi_InvalidTable_LimitError_ok (v : Ev K mg base) : ∀ k b C, xi_InvalidTable_LimitError k = some b → (MM K).G k = some C → XqC K C ∧ PySem.W.kitAny K (.ref C) [.ref (He.ga K "InvalidTable"), .ref (He.ga K "LimitError")] = some b := by
  intro k b C h hG
  unfold xi_InvalidTable_LimitError at h
  split at h
  · cases h
    cases hG
    exact ⟨(ex_InvalidInteger v).2.1, (kitAny_cons (kit_ok (v.c.fact 53 (f := .kit "InvalidInteger" "InvalidTable" false))) (fun _ => (kitAny_cons (kit_ok (v.c.fact 52 (f := .kit "InvalidInteger" "LimitError" false))) (fun _ => kitAny_nil) (fun z => by cases z))) (fun z => by cases z))⟩
  · cases h
    cases hG
    exact ⟨(ex_InvalidTable v).2.1, (kitAny_cons (kit_ok (v.c.fact 54 (f := .kit "InvalidTable" "InvalidTable" true))) (fun z => by cases z) (fun _ => rfl))⟩
  · cases h
    cases hG
    exact ⟨(ex_TooLong v).2.1, (kitAny_cons (kit_ok (v.c.fact 56 (f := .kit "TooLong" "InvalidTable" false))) (fun _ => (kitAny_cons (kit_ok (v.c.fact 55 (f := .kit "TooLong" "LimitError" true))) (fun z => by cases z) (fun _ => rfl))) (fun z => by cases z))⟩
  · cases h
def xf_value : Nat → Option Nat := fun n => match n with
  | 100 => some 0
  | _ => none
theorem xf_value_ok (v : Ev K mg base) : ∀ k j C, xf_value k = some j → (MM K).G k = some C → XqC K C ∧ PySem.W.findIn K (.ref C) "value" = some none ∧ ((MM K).nm k)[j]? = some "value" ∧ ("value" : Str) ∉ ((MM K).nm k).take j := by
  intro k j C h hG
  unfold xf_value at h
  split at h
  · cases h
    cases hG
    exact ⟨(ex_InvalidInteger v).2.1, He.noat_ok (v.c.fact 41 (f := .he (.noat "InvalidInteger" "value"))), rfl, show ("value" : Str) ∉ (["value"] : List Str).take 0 from by decide +kernel⟩
  · cases h
/-! _law_refused -/
abbrev g__law_refused_1 (res : Res D) : FS := (sAsg (fLst (aCons (kD (.str "none")) aNil)) (tName 1))
abbrev g__law_refused_2t_1 (res : Res D) : FS := (sExpr (fRes 0 res))
abbrev g__law_refused_2B (res : Res D) : FS := (g__law_refused_2t_1 res)
abbrev g__law_refused_2 (res : Res D) : FS := (sTry 2 (g__law_refused_2B res) (hCons xm_InvalidInteger (fun y => (sSeq (sAsg (fOrV (xIs xi_InvalidTable_LimitError y) (toE (fNotV (xIs xi_ThreeswapsError y)))) (tName 3)) (sAsg (fIfE (fTst (toE (vI 3))) (fLst (aCons (kD (.str "other")) aNil)) (fLst (aCons (kD (.str "value")) (aCons (xFldT xf_value y) aNil)))) (tName 1)))) hNil))
abbrev g__law_refused_3 (res : Res D) : FS := (sRet (toE (fReprD (vI 1))))
def g__law_refused (res : Res D) : FS := (sSeq (g__law_refused_1 res) (sSeq (g__law_refused_2 res) (g__law_refused_3 res)))
theorem S__law_refused : FnScope ["_law_call", "_law_told", "e", "_law_others"] ["_law_call"] (defScope (top 34)) := ⟨rfl, rfl, rfl, by decide +kernel, rfl, by decide +kernel, by decide +kernel⟩
theorem kp__law_refused (v : Ev K mg base) : PySem.W.keepIn K (.ref (He.ga K "_law_refused")) = true := (v.c.def_ 17 (d := d__law_refused) rfl).elim fun _ F => F.kp
theorem b__law_refused (v : Ev K mg base) {L : Lm} (res : Res D) (cdv : Value) (A : Around) (outer : List Env) (s : Shared) (H : Hp) (E : XK) (hr : TS.Room 0 (A.deeper (PyProof.Rows.envOfC "_law_refused" (defScope (top 34)) s.heap.objs.size (He.ga K "_law_refused") cdv))) (tk : Takes (cxOf (L2.CX P w) P w K mg base ["_law_call", "_law_told", "e", "_law_others"] "_law_refused" (defScope (top 34)) (He.ga K "_law_refused") cdv A outer s H E) (fun cls d _ H => E cls d H))
    (hp : PassesOwn (model P w) (A.deeper (PyProof.Rows.envOfC "_law_refused" (defScope (top 34)) s.heap.objs.size (He.ga K "_law_refused") cdv)) (PyProof.Rows.envOfC "_law_refused" (defScope (top 34)) s.heap.objs.size (He.ga K "_law_refused") cdv) (cxOf (L2.CX P w) P w K mg base ["_law_call", "_law_told", "e", "_law_others"] "_law_refused" (defScope (top 34)) (He.ga K "_law_refused") cdv A outer s H E).xe) (act : ∀ (W : WX) (pn : List (Addr × Obj)) (xe : Value → Shared → Prop) (p1 p2 : Pos), Takes ((cxOf (L2.CX P w) P w K mg base ["_law_call", "_law_told", "e", "_law_others"] "_law_refused" (defScope (top 34)) (He.ga K "_law_refused") cdv A outer s H E).tr pn xe) W → DE ((MM K).wl L) W ((cxOf (L2.CX P w) P w K mg base ["_law_call", "_law_told", "e", "_law_others"] "_law_refused" (defScope (top 34)) (He.ga K "_law_refused") cdv A outer s H E).tr pn xe) (.Call (.Name "_law_call" p1) [] [] p2) (fRes 0 res)) : DSs ((MM K).wl L) (fun cls d _ H => E cls d H) (cxOf (L2.CX P w) P w K mg base ["_law_call", "_law_told", "e", "_law_others"] "_law_refused" (defScope (top 34)) (He.ga K "_law_refused") cdv A outer s H E) (defBody (top 34)) (g__law_refused res) :=
  (dss_cons (ds_set (i := 1) S__law_refused.nd (by rfl) (by first | exact Or.inl rfl | exact Or.inr rfl) (de_lst (da_cons di_str da_nil)))
    (dss_cons (ds_try (by rfl) (by rfl) S__law_refused.nd (by rfl) (by rfl) tk (fun W pn xe tk hp => (dss_one (ds_expr (act _ _ _ _ _ tk)))) (ClA.cons (tab := xm_InvalidInteger) ⟨by rfl, by decide, Or.inl (u_InvalidInteger v)⟩ (xm_InvalidInteger_ok v) (fun a oe cls d pn y hz hf => (zs_cons (z_set (by show 3 ≠ 2; decide) S__law_refused.nd (by rfl) (by first | exact Or.inl rfl | exact Or.inr rfl) (z_or (z_isiT (xi_InvalidTable_LimitError_ok v) hz hf (by rfl) (u_isinstance v) (pv 2) (pa_cons (pe_glob (by rfl) (u_InvalidTable v) (by rfl)) (pa_cons (pe_glob (by rfl) (u_LimitError v) (by rfl)) pa_nil)) (fun σ H Q h => h) (Paired.cons (ClsV.own _) (Paired.cons (ClsV.own _) Paired.nil)) (by show 2 ≤ 100; decide)) (z_one (z_toE (z_not (z_isi (xi_ThreeswapsError_ok v) hz hf (by rfl) (u_isinstance v) (pv 2) (pe_glob (by rfl) (u_ThreeswapsError v) (by rfl)) (ClsV.own _))))))) (zs_one (z_set (by show 1 ≠ 2; decide) S__law_refused.nd (by rfl) (by first | exact Or.inl rfl | exact Or.inr rfl) (z_if (z_t (dt_val (DI.toE (di_var (pv 3))))) (z_e (de_lst (da_cons di_str da_nil))) (z_lst (z_cons (z_i di_str) (z_cons (z_fld (xf_value_ok v) hz hf (pv 2)) z_nil)))))))) ClA.nil))
    (dss_one (ds_ret (DI.toE (b_reprX (smd_ok (v.c.fact 58 (f := .smd))) hr (by rfl) (u_repr v) (di_var (pv 1))))))))
def m__law_refused (res : Res D) : Fm := mir 4 1 (g__law_refused res)
theorem l__law_refused (v : Ev K mg base) : ∃ fd, LamOk P w (MM K) K mg base 0 "_law_refused" (He.ga K "_law_refused") m__law_refused "_law_refused" (defArgs (top 34)) (defBody (top 34)) (defScope (top 34)) fd "_law_call" ["_law_call", "_law_told", "e", "_law_others"] g__law_refused := by
  obtain ⟨fd, F⟩ := v.c.def_ 17 (d := d__law_refused) rfl
  exact ⟨fd, F, kp__law_refused v, S__law_refused, F.bindsN (ps := ["_law_call"]) (fun _ _ _ _ _ _ us hl => match us, hl with | [_], _ => rfl), fun _ => rfl, fun L res cdv A outer s H E hr tk hp act => b__law_refused v res cdv A outer s H E hr tk hp act⟩
/-! moved -/
abbrev g_moved_1 : FS := (sRet (fBin gAdd (vI 1) (frz (fBin gIx (vI 0) (frz (fBin gMod (vI 1) (frz (fCal gLen (aOne (vP 0))))))))))
def g_moved : FS := g_moved_1
theorem S_moved : FnScope ["offsets", "place"] ["offsets", "place"] (defScope (top 18)) := ⟨rfl, rfl, rfl, by decide +kernel, rfl, by decide +kernel, by decide +kernel⟩
theorem kp_moved (v : Ev K mg base) : PySem.W.keepIn K (.ref (He.ga K "moved")) = true := (v.c.def_ 18 (d := d_moved) rfl).elim fun _ F => F.kp
theorem b_moved (v : Ev K mg base) (cdv : Value) (A : Around) (outer : List Env) (s : Shared) (H : Hp) (E : XK) (hr : TS.Room 0 (A.deeper (PyProof.Rows.envOfC "moved" (defScope (top 18)) s.heap.objs.size (He.ga K "moved") cdv))) (tk : Takes (cxOf (L2.CX P w) P w K mg base ["offsets", "place"] "moved" (defScope (top 18)) (He.ga K "moved") cdv A outer s H E) (fun cls d _ H => E cls d H))
    (hp : PassesOwn (model P w) (A.deeper (PyProof.Rows.envOfC "moved" (defScope (top 18)) s.heap.objs.size (He.ga K "moved") cdv)) (PyProof.Rows.envOfC "moved" (defScope (top 18)) s.heap.objs.size (He.ga K "moved") cdv) (cxOf (L2.CX P w) P w K mg base ["offsets", "place"] "moved" (defScope (top 18)) (He.ga K "moved") cdv A outer s H E).xe) : DSs (MM K) (fun cls d _ H => E cls d H) (cxOf (L2.CX P w) P w K mg base ["offsets", "place"] "moved" (defScope (top 18)) (He.ga K "moved") cdv A outer s H E) (defBody (top 18)) g_moved :=
  (dss_one (ds_ret (x_add (di_var (pv 1)) (DE.pk (x_ix hr (di_var (pv 0)) (DE.pk (x_mod (di_var (pv 1)) (DE.pk (b_len (by rfl) (u_len v) (db_one (dp_var (pv 0))))))))))))
def m_moved : Fm := mir 2 2 g_moved
theorem o_moved (v : Ev K mg base) : ∃ fd, FunD K "moved" "moved" (defArgs (top 18)) (defBody (top 18)) (defScope (top 18)) [] [] (He.ga K "moved") fd ∧ TS.FnOk P w K mg base (L2.CX P w) 1 (He.ga K "moved") fd ["offsets", "place"] (spD (MM K) m_moved) := by
  obtain ⟨fd, F⟩ := v.c.def_ 18 (d := d_moved) rfl
  exact ⟨fd, F, funD_mir (M := MM K) F S_moved (by decide) (fun cdv A outer s H E hr tk hp => b_moved v cdv A outer s H E hr tk hp)⟩
theorem f_moved (v : Ev K mg base) : TS.FnR P w K mg base (L2.CX P w) 1 (He.ga K "moved") (spD (MM K) m_moved) := by
  obtain ⟨fd, F, O⟩ := o_moved (P := P) (w := w) v
  exact fnR_raw (M := MM K) O (F.bindsN (ps := ["offsets", "place"]) fun _ _ _ _ _ _ us hl => match us, hl with | [_, _], _ => rfl)
/-! Plan.at -/
abbrev g_Plan_at_1 : FS := (sExpr (fOwn m_require_integer_d1 (aCons (vI 1) aNil)))
abbrev g_Plan_at_2 : FS := (sRet (fOwn m_moved (aCons (fFld ix_own_offsets (vP 0)) (aCons (vI 1) aNil))))
def g_Plan_at : FS := (sSeq g_Plan_at_1 g_Plan_at_2)
theorem S_Plan_at : FnScope ["self", "x"] ["self", "x"] (defScope (inClass (top 21) 8)) := ⟨rfl, rfl, rfl, by decide +kernel, rfl, by decide +kernel, by decide +kernel⟩
theorem kp_Plan_at (v : Ev K mg base) : PySem.W.keepIn K (.ref (He.ma K (He.ga K "Plan") "at")) = true := (v.c.def_ 19 (d := d_Plan_at) rfl).elim fun _ F => F.kp
theorem b_Plan_at (v : Ev K mg base) (cdv : Value) (A : Around) (outer : List Env) (s : Shared) (H : Hp) (E : XK) (hr : TS.Room 3 (A.deeper (PyProof.Rows.envOfC "Plan.at" (defScope (inClass (top 21) 8)) s.heap.objs.size (He.ma K (He.ga K "Plan") "at") cdv))) (tk : Takes (cxOf (L2.CX P w) P w K mg base ["self", "x"] "Plan.at" (defScope (inClass (top 21) 8)) (He.ma K (He.ga K "Plan") "at") cdv A outer s H E) (fun cls d _ H => E cls d H))
    (hp : PassesOwn (model P w) (A.deeper (PyProof.Rows.envOfC "Plan.at" (defScope (inClass (top 21) 8)) s.heap.objs.size (He.ma K (He.ga K "Plan") "at") cdv)) (PyProof.Rows.envOfC "Plan.at" (defScope (inClass (top 21) 8)) s.heap.objs.size (He.ma K (He.ga K "Plan") "at") cdv) (cxOf (L2.CX P w) P w K mg base ["self", "x"] "Plan.at" (defScope (inClass (top 21) 8)) (He.ma K (He.ga K "Plan") "at") cdv A outer s H E).xe) : DSs (MM K) (fun cls d _ H => E cls d H) (cxOf (L2.CX P w) P w K mg base ["self", "x"] "Plan.at" (defScope (inClass (top 21) 8)) (He.ma K (He.ga K "Plan") "at") cdv A outer s H E) (defBody (inClass (top 21) 8)) g_Plan_at :=
  (dss_cons (ds_expr (d_own (fun h => pe_own ((f_require_integer_d1 v).mono (by decide)) hr tk (by rfl) (u_require_integer v) (kp_require_integer v) h) (da_cons (di_var (pv 1)) da_nil)))
    (dss_one (ds_ret (d_own (fun h => pe_own ((f_moved v).mono (by decide)) hr tk (by rfl) (u_moved v) (kp_moved v) h) (da_cons (di_fld (F_own_offsets v) (dp_var (pv 0))) (da_cons (di_var (pv 1)) da_nil))))))
def m_Plan_at : Fm := mir 2 2 g_Plan_at
theorem o_Plan_at (v : Ev K mg base) : ∃ fd, FunD K "at" "Plan.at" (defArgs (inClass (top 21) 8)) (defBody (inClass (top 21) 8)) (defScope (inClass (top 21) 8)) [] [] (He.ma K (He.ga K "Plan") "at") fd ∧ TS.FnOk P w K mg base (L2.CX P w) 4 (He.ma K (He.ga K "Plan") "at") fd ["self", "x"] (spD (MM K) m_Plan_at) := by
  obtain ⟨fd, F⟩ := v.c.def_ 19 (d := d_Plan_at) rfl
  exact ⟨fd, F, funD_mir (M := MM K) F S_Plan_at (by decide) (fun cdv A outer s H E hr tk hp => b_Plan_at v cdv A outer s H E hr tk hp)⟩
theorem f_Plan_at (v : Ev K mg base) : TS.FnR P w K mg base (L2.CX P w) 4 (He.ma K (He.ga K "Plan") "at") (spD (MM K) m_Plan_at) := by
  obtain ⟨fd, F, O⟩ := o_Plan_at (P := P) (w := w) v
  exact fnR_raw (M := MM K) O (F.bindsN (ps := ["self", "x"]) fun _ _ _ _ _ _ us hl => match us, hl with | [_, _], _ => rfl)
def tab_at : Nat → Option Fm := fun n => match n with
  | 0 => some m_Plan_at
  | _ => none
theorem T_at (v : Ev K mg base) : ∀ n f, tab_at n = some f → ∃ C g, (MM K).G n = some C ∧ Cls K C ∧ Meth K C "at" g ∧ TS.FnR P w K mg base (L2.CX P w) 4 g (spD (MM K) f) := by
  intro n f h
  unfold tab_at at h
  split at h
  · cases h
    exact ⟨_, _, rfl, He.cls_ok (v.c.fact 12 (f := .he (.cls "Plan"))), He.meth_ok (v.c.fact 61 (f := .he (.meth "Plan" "at"))), (f_Plan_at v).mono (by decide)⟩
  · cases h
theorem n_at : ∀ n f, tab_at n = some f → (("at" : Str) ∉ (MM K).nm n) := by
  intro n f h
  unfold tab_at at h
  split at h
  · show ("at" : Str) ∉ (["own_offsets", "own_sources"] : List Str)
    decide +kernel
  · cases h
/-! Plan.__call__ -/
abbrev g_Plan___call___1 : FS := (sRet (fMeth tab_at (vI 0) (aCons (vI 1) aNil)))
def g_Plan___call__ : FS := g_Plan___call___1
theorem S_Plan___call__ : FnScope ["self", "x"] ["self", "x"] (defScope (inClass (top 21) 9)) := ⟨rfl, rfl, rfl, by decide +kernel, rfl, by decide +kernel, by decide +kernel⟩
theorem kp_Plan___call__ (v : Ev K mg base) : PySem.W.keepIn K (.ref (He.ma K (He.ga K "Plan") "__call__")) = true := (v.c.def_ 20 (d := d_Plan___call__) rfl).elim fun _ F => F.kp
theorem b_Plan___call__ (v : Ev K mg base) (cdv : Value) (A : Around) (outer : List Env) (s : Shared) (H : Hp) (E : XK) (hr : TS.Room 4 (A.deeper (PyProof.Rows.envOfC "Plan.__call__" (defScope (inClass (top 21) 9)) s.heap.objs.size (He.ma K (He.ga K "Plan") "__call__") cdv))) (tk : Takes (cxOf (L2.CX P w) P w K mg base ["self", "x"] "Plan.__call__" (defScope (inClass (top 21) 9)) (He.ma K (He.ga K "Plan") "__call__") cdv A outer s H E) (fun cls d _ H => E cls d H))
    (hp : PassesOwn (model P w) (A.deeper (PyProof.Rows.envOfC "Plan.__call__" (defScope (inClass (top 21) 9)) s.heap.objs.size (He.ma K (He.ga K "Plan") "__call__") cdv)) (PyProof.Rows.envOfC "Plan.__call__" (defScope (inClass (top 21) 9)) s.heap.objs.size (He.ma K (He.ga K "Plan") "__call__") cdv) (cxOf (L2.CX P w) P w K mg base ["self", "x"] "Plan.__call__" (defScope (inClass (top 21) 9)) (He.ma K (He.ga K "Plan") "__call__") cdv A outer s H E).xe) : DSs (MM K) (fun cls d _ H => E cls d H) (cxOf (L2.CX P w) P w K mg base ["self", "x"] "Plan.__call__" (defScope (inClass (top 21) 9)) (He.ma K (He.ga K "Plan") "__call__") cdv A outer s H E) (defBody (inClass (top 21) 9)) g_Plan___call__ :=
  (dss_one (ds_ret (d_meth (fun h h' => pe_methD h (methOk_of (T_at v)) (hr.mono (by decide : 4 ≤ 4)) tk h') n_at (di_var (pv 0)) (da_cons (di_var (pv 1)) da_nil))))
def m_Plan___call__ : Fm := mir 2 2 g_Plan___call__
theorem o_Plan___call__ (v : Ev K mg base) : ∃ fd, FunD K "__call__" "Plan.__call__" (defArgs (inClass (top 21) 9)) (defBody (inClass (top 21) 9)) (defScope (inClass (top 21) 9)) [] [] (He.ma K (He.ga K "Plan") "__call__") fd ∧ TS.FnOk P w K mg base (L2.CX P w) 5 (He.ma K (He.ga K "Plan") "__call__") fd ["self", "x"] (spD (MM K) m_Plan___call__) := by
  obtain ⟨fd, F⟩ := v.c.def_ 20 (d := d_Plan___call__) rfl
  exact ⟨fd, F, funD_mir (M := MM K) F S_Plan___call__ (by decide) (fun cdv A outer s H E hr tk hp => b_Plan___call__ v cdv A outer s H E hr tk hp)⟩
theorem f_Plan___call__ (v : Ev K mg base) : TS.FnR P w K mg base (L2.CX P w) 5 (He.ma K (He.ga K "Plan") "__call__") (spD (MM K) m_Plan___call__) := by
  obtain ⟨fd, F, O⟩ := o_Plan___call__ (P := P) (w := w) v
  exact fnR_raw (M := MM K) O (F.bindsN (ps := ["self", "x"]) fun _ _ _ _ _ _ us hl => match us, hl with | [_, _], _ => rfl)
def tab___call__ : Nat → Option Fm := fun n => match n with
  | 0 => some m_Plan___call__
  | _ => none
theorem T___call__ (v : Ev K mg base) : ∀ n f, tab___call__ n = some f → ∃ C g, (MM K).G n = some C ∧ Cls K C ∧ Meth K C "__call__" g ∧ TS.FnR P w K mg base (L2.CX P w) 5 g (spD (MM K) f) := by
  intro n f h
  unfold tab___call__ at h
  split at h
  · cases h
    exact ⟨_, _, rfl, He.cls_ok (v.c.fact 12 (f := .he (.cls "Plan"))), He.meth_ok (v.c.fact 63 (f := .he (.meth "Plan" "__call__"))), (f_Plan___call__ v).mono (by decide)⟩
  · cases h
theorem n___call__ : ∀ n f, tab___call__ n = some f → (("__call__" : Str) ∉ (MM K).nm n) := by
  intro n f h
  unfold tab___call__ at h
  split at h
  · show ("__call__" : Str) ∉ (["own_offsets", "own_sources"] : List Str)
    decide +kernel
  · cases h
theorem CT (v : Ev K mg base) : CallT (MM K) P w mg base 5 tab___call__ := by
  intro n f h
  unfold tab___call__ at h
  split at h
  · cases h
    exact ⟨_, _, rfl, ((v.c.def_ 20 (d := d_Plan___call__) rfl).elim fun _ F => callO_of (He.meth_ok (v.c.fact 63 (f := .he (.meth "Plan" "__call__")))) F), (f_Plan___call__ v).mono (by decide)⟩
  · cases h
/-! Plan.back -/
abbrev g_Plan_back_1 : FS := (sExpr (fOwn m_require_integer_d1 (aCons (vI 1) aNil)))
abbrev g_Plan_back_2 : FS := (sRet (fBin gSub (vI 1) (frz (fBin gIx (fFld ix_own_offsets (vP 0)) (frz (fBin gIx (fFld ix_own_sources (vP 0)) (frz (fBin gMod (vI 1) (frz (fCal gLen (aOne (fFld ix_own_sources (vP 0)))))))))))))
def g_Plan_back : FS := (sSeq g_Plan_back_1 g_Plan_back_2)
theorem S_Plan_back : FnScope ["self", "x"] ["self", "x"] (defScope (inClass (top 21) 10)) := ⟨rfl, rfl, rfl, by decide +kernel, rfl, by decide +kernel, by decide +kernel⟩
theorem kp_Plan_back (v : Ev K mg base) : PySem.W.keepIn K (.ref (He.ma K (He.ga K "Plan") "back")) = true := (v.c.def_ 21 (d := d_Plan_back) rfl).elim fun _ F => F.kp
theorem b_Plan_back (v : Ev K mg base) (cdv : Value) (A : Around) (outer : List Env) (s : Shared) (H : Hp) (E : XK) (hr : TS.Room 3 (A.deeper (PyProof.Rows.envOfC "Plan.back" (defScope (inClass (top 21) 10)) s.heap.objs.size (He.ma K (He.ga K "Plan") "back") cdv))) (tk : Takes (cxOf (L2.CX P w) P w K mg base ["self", "x"] "Plan.back" (defScope (inClass (top 21) 10)) (He.ma K (He.ga K "Plan") "back") cdv A outer s H E) (fun cls d _ H => E cls d H))
    (hp : PassesOwn (model P w) (A.deeper (PyProof.Rows.envOfC "Plan.back" (defScope (inClass (top 21) 10)) s.heap.objs.size (He.ma K (He.ga K "Plan") "back") cdv)) (PyProof.Rows.envOfC "Plan.back" (defScope (inClass (top 21) 10)) s.heap.objs.size (He.ma K (He.ga K "Plan") "back") cdv) (cxOf (L2.CX P w) P w K mg base ["self", "x"] "Plan.back" (defScope (inClass (top 21) 10)) (He.ma K (He.ga K "Plan") "back") cdv A outer s H E).xe) : DSs (MM K) (fun cls d _ H => E cls d H) (cxOf (L2.CX P w) P w K mg base ["self", "x"] "Plan.back" (defScope (inClass (top 21) 10)) (He.ma K (He.ga K "Plan") "back") cdv A outer s H E) (defBody (inClass (top 21) 10)) g_Plan_back :=
  (dss_cons (ds_expr (d_own (fun h => pe_own ((f_require_integer_d1 v).mono (by decide)) hr tk (by rfl) (u_require_integer v) (kp_require_integer v) h) (da_cons (di_var (pv 1)) da_nil)))
    (dss_one (ds_ret (x_sub (di_var (pv 1)) (DE.pk (x_ix hr (di_fld (F_own_offsets v) (dp_var (pv 0))) (DE.pk (x_ix hr (di_fld (F_own_sources v) (dp_var (pv 0))) (DE.pk (x_mod (di_var (pv 1)) (DE.pk (b_len (by rfl) (u_len v) (db_one (DI.pk (di_fld (F_own_sources v) (dp_var (pv 0)))))))))))))))))
def m_Plan_back : Fm := mir 2 2 g_Plan_back
theorem o_Plan_back (v : Ev K mg base) : ∃ fd, FunD K "back" "Plan.back" (defArgs (inClass (top 21) 10)) (defBody (inClass (top 21) 10)) (defScope (inClass (top 21) 10)) [] [] (He.ma K (He.ga K "Plan") "back") fd ∧ TS.FnOk P w K mg base (L2.CX P w) 4 (He.ma K (He.ga K "Plan") "back") fd ["self", "x"] (spD (MM K) m_Plan_back) := by
  obtain ⟨fd, F⟩ := v.c.def_ 21 (d := d_Plan_back) rfl
  exact ⟨fd, F, funD_mir (M := MM K) F S_Plan_back (by decide) (fun cdv A outer s H E hr tk hp => b_Plan_back v cdv A outer s H E hr tk hp)⟩
theorem f_Plan_back (v : Ev K mg base) : TS.FnR P w K mg base (L2.CX P w) 4 (He.ma K (He.ga K "Plan") "back") (spD (MM K) m_Plan_back) := by
  obtain ⟨fd, F, O⟩ := o_Plan_back (P := P) (w := w) v
  exact fnR_raw (M := MM K) O (F.bindsN (ps := ["self", "x"]) fun _ _ _ _ _ _ us hl => match us, hl with | [_, _], _ => rfl)
def tab_back : Nat → Option Fm := fun n => match n with
  | 0 => some m_Plan_back
  | _ => none
theorem T_back (v : Ev K mg base) : ∀ n f, tab_back n = some f → ∃ C g, (MM K).G n = some C ∧ Cls K C ∧ Meth K C "back" g ∧ TS.FnR P w K mg base (L2.CX P w) 4 g (spD (MM K) f) := by
  intro n f h
  unfold tab_back at h
  split at h
  · cases h
    exact ⟨_, _, rfl, He.cls_ok (v.c.fact 12 (f := .he (.cls "Plan"))), He.meth_ok (v.c.fact 64 (f := .he (.meth "Plan" "back"))), (f_Plan_back v).mono (by decide)⟩
  · cases h
theorem n_back : ∀ n f, tab_back n = some f → (("back" : Str) ∉ (MM K).nm n) := by
  intro n f h
  unfold tab_back at h
  split at h
  · show ("back" : Str) ∉ (["own_offsets", "own_sources"] : List Str)
    decide +kernel
  · cases h
/-! _law_refused_right -/
abbrev g__law_refused_right_1 : FS := (sAsg (fOwnIo m__law_choice 0 (aCons (frz (fLst (aCons (kD .non) (aCons (kD (.bl true)) (aCons (kD (.bl false)) (aCons (kD (.str "")) (aCons (kD (.str "0")) (aCons (fTup (aCons (kD (.int 0)) aNil)) (aCons (frz (fLst (aCons (kD (.int 1)) aNil))) (aCons (frz (fun δ => .ok (.own (.dK [] [])) δ)) (aCons (fTup aNil) (aCons (kD (.str "x")) aNil)))))))))))) aNil)) (tName 2))
abbrev g__law_refused_right_2 : FS := (sAsg (fLst (aCons (frz (fLam [1, 2] m__law_refused (fMeth tab_at (vI 1) (aCons (vI 2) aNil)))) aNil)) (tName 3))
abbrev g__law_refused_right_3 : FS := (sExpr (toE (fMut 3 mAppend (aCons (frz (fLam [1, 2] m__law_refused (fMeth tab___call__ (vI 1) (aCons (vI 2) aNil)))) aNil))))
abbrev g__law_refused_right_4 : FS := (sExpr (toE (fMut 3 mAppend (aCons (frz (fLam [1, 2] m__law_refused (fMeth tab_back (vI 1) (aCons (vI 2) aNil)))) aNil))))
abbrev g__law_refused_right_5 : FS := (sExpr (toE (fMut 3 mAppend (aCons (frz (fLam [2] m__law_refused (fCMeth 0 m_Plan_shift (aCons (vI 2) aNil)))) aNil))))
abbrev g__law_refused_right_6 : FS := (sRet (fBinV gEq 3 (frz (fBin gMul (frz (fLst (aCons (fReprD (frz (fLst (aCons (kD (.str "value")) (aCons (vI 2) aNil))))) aNil))) (kD (.int 4))))))
def g__law_refused_right : FS := (sSeq g__law_refused_right_1 (sSeq g__law_refused_right_2 (sSeq g__law_refused_right_3 (sSeq g__law_refused_right_4 (sSeq g__law_refused_right_5 g__law_refused_right_6)))))
theorem S__law_refused_right : FnScope ["_law_pot_here", "_law_plan", "_law_odd", "_law_told"] ["_law_pot_here", "_law_plan"] (defScope (top 35)) := ⟨rfl, rfl, rfl, by decide +kernel, rfl, by decide +kernel, by decide +kernel⟩
theorem kp__law_refused_right (v : Ev K mg base) : PySem.W.keepIn K (.ref (He.ga K "_law_refused_right")) = true := (v.c.def_ 22 (d := d__law_refused_right) rfl).elim fun _ F => F.kp
theorem mk__law_refused_right (v : Ev K mg base) : LamX.TabB base mg (cdA (gA "_law_refused_right") K) (tbA (gA "_law_refused_right") K) ∧ (tbA (gA "_law_refused_right") K, ("_law_refused_right.<locals>.<lambda>" : Str)) ∈ (MM K).T ∧ ∀ p ∈ (MM K).T, p.1 = tbA (gA "_law_refused_right") K → p.2 = ("_law_refused_right.<locals>.<lambda>" : Str) :=
  mk_of v.t v.u (i := 0) rfl
theorem b__law_refused_right (v : Ev K mg base) (cdv : Value) (hcd : cdv = .ref (cdA (gA "_law_refused_right") K)) (A : Around) (outer : List Env) (s : Shared) (H : Hp) (E : XK) (hr : TS.Room 8 (A.deeper (PyProof.Rows.envOfC "_law_refused_right" (defScope (top 35)) s.heap.objs.size (He.ga K "_law_refused_right") cdv))) (tk : Takes (cxOf (L2.CX P w) P w K mg base ["_law_pot_here", "_law_plan", "_law_odd", "_law_told"] "_law_refused_right" (defScope (top 35)) (He.ga K "_law_refused_right") cdv A outer s H E) (fun cls d _ H => E cls d H))
    (hp : PassesOwn (model P w) (A.deeper (PyProof.Rows.envOfC "_law_refused_right" (defScope (top 35)) s.heap.objs.size (He.ga K "_law_refused_right") cdv)) (PyProof.Rows.envOfC "_law_refused_right" (defScope (top 35)) s.heap.objs.size (He.ga K "_law_refused_right") cdv) (cxOf (L2.CX P w) P w K mg base ["_law_pot_here", "_law_plan", "_law_odd", "_law_told"] "_law_refused_right" (defScope (top 35)) (He.ga K "_law_refused_right") cdv A outer s H E).xe) : DSs (MM K) (fun cls d _ H => E cls d H) (cxOf (L2.CX P w) P w K mg base ["_law_pot_here", "_law_plan", "_law_odd", "_law_told"] "_law_refused_right" (defScope (top 35)) (He.ga K "_law_refused_right") cdv A outer s H E) (defBody (top 35)) g__law_refused_right :=
  (dss_cons (ds_set (i := 2) S__law_refused_right.nd (by rfl) (by first | exact Or.inl rfl | exact Or.inr rfl) (d_ownIo (fun h => pe_own ((f__law_choice v).mono (by decide)) hr tk (by rfl) (u__law_choice v) (kp__law_choice v) h) (pv 0) (da_cons (DE.frz (de_lst (da_cons di_non (da_cons di_bl (da_cons di_bl (da_cons di_str (da_cons di_str (da_cons (di_tup (da_cons di_int da_nil)) (da_cons (DE.frz (de_lst (da_cons di_int da_nil))) (da_cons (DE.frz de_dnew) (da_cons (di_tup da_nil) (da_cons di_str da_nil)))))))))))) da_nil)))
    (dss_cons (ds_set (i := 3) S__law_refused_right.nd (by rfl) (by first | exact Or.inl rfl | exact Or.inr rfl) (de_lst (da_cons (DE.frz (Exists.elim (l__law_refused (P := P) (w := w) v) fun _ hL => d_lam (kb := 6) hL rfl (by rfl) (u__law_refused v) tk hr (by decide) (by decide) (mk__law_refused_right v).1 hcd (mk__law_refused_right v).2.1 (mk__law_refused_right v).2.2 (LamX.lamS_by (by rfl)) (fun A outer s H E f c' hr tk => (d_meth (fun h h' => pe_methD h (methOk_of (T_at v)) (hr.mono (by decide : 4 ≤ 6)) tk h') n_at (di_var (pv 1)) (da_cons (di_var (pv 2)) da_nil))))) da_nil)))
    (dss_cons (ds_expr (DI.toE (m_append (pv 3) (da_cons (DE.frz (Exists.elim (l__law_refused (P := P) (w := w) v) fun _ hL => d_lam (kb := 6) hL rfl (by rfl) (u__law_refused v) tk hr (by decide) (by decide) (mk__law_refused_right v).1 hcd (mk__law_refused_right v).2.1 (mk__law_refused_right v).2.2 (LamX.lamS_by (by rfl)) (fun A outer s H E f c' hr tk => (d_inst rfl (CT v) (hr.mono (by decide : 5 ≤ 6)) tk (di_var (pv 1)) (da_cons (di_var (pv 2)) da_nil))))) da_nil))))
    (dss_cons (ds_expr (DI.toE (m_append (pv 3) (da_cons (DE.frz (Exists.elim (l__law_refused (P := P) (w := w) v) fun _ hL => d_lam (kb := 6) hL rfl (by rfl) (u__law_refused v) tk hr (by decide) (by decide) (mk__law_refused_right v).1 hcd (mk__law_refused_right v).2.1 (mk__law_refused_right v).2.2 (LamX.lamS_by (by rfl)) (fun A outer s H E f c' hr tk => (d_meth (fun h h' => pe_methD h (methOk_of (T_back v)) (hr.mono (by decide : 4 ≤ 6)) tk h') n_back (di_var (pv 1)) (da_cons (di_var (pv 2)) da_nil))))) da_nil))))
    (dss_cons (ds_expr (DI.toE (m_append (pv 3) (da_cons (DE.frz (Exists.elim (l__law_refused (P := P) (w := w) v) fun _ hL => d_lam (kb := 6) hL rfl (by rfl) (u__law_refused v) tk hr (by decide) (by decide) (mk__law_refused_right v).1 hcd (mk__law_refused_right v).2.1 (mk__law_refused_right v).2.2 (LamX.lamS_by (by rfl)) (fun A outer s H E f c' hr tk => (d_cmeth (fun h => pe_cm (pe_glob (by rfl) (u_Plan v) (by rfl)) (cread_ok (v.c.fact 32 (f := .cread "Plan"))) (cmet_ok (v.c.fact 44 (f := .cmet "Plan" "shift"))) ((f_Plan_shift v).mono (by decide)) hr tk h) rfl (da_cons (di_var (pv 2)) da_nil))))) da_nil))))
    (dss_one (ds_ret (x_eqV hr (pv 3) (DE.pk (x_mul (DE.frz (de_lst (da_cons (b_reprX (smd_ok (v.c.fact 58 (f := .smd))) hr (by rfl) (u_repr v) (DE.frz (de_lst (da_cons di_str (da_cons (di_var (pv 2)) da_nil))))) da_nil))) (DI.pk di_int)))))))))))
def m__law_refused_right : Fm := mir 4 2 g__law_refused_right
theorem o__law_refused_right (v : Ev K mg base) : ∃ fd, FunD K "_law_refused_right" "_law_refused_right" (defArgs (top 35)) (defBody (top 35)) (defScope (top 35)) [] [] (He.ga K "_law_refused_right") fd ∧ TS.FnOk P w K mg base (L2.CX P w) 9 (He.ga K "_law_refused_right") fd ["_law_pot_here", "_law_plan"] (spD (MM K) m__law_refused_right) := by
  obtain ⟨fd, F⟩ := v.c.def_ 22 (d := d__law_refused_right) rfl
  exact ⟨fd, F, funD_mirC (M := MM K) F S__law_refused_right (by decide) (fun cdv hc A outer s H E hr tk hp => b__law_refused_right v cdv (code_of (f := (gA "_law_refused_right")) (v.m _ (List.mem_of_getElem? (show tn[0]? = some _ from rfl))) hc) A outer s H E hr tk hp)⟩
theorem f__law_refused_right (v : Ev K mg base) : TS.FnR P w K mg base (L2.CX P w) 9 (He.ga K "_law_refused_right") (spD (MM K) m__law_refused_right) := by
  obtain ⟨fd, F, O⟩ := o__law_refused_right (P := P) (w := w) v
  exact fnR_raw (M := MM K) O (F.bindsN (ps := ["_law_pot_here", "_law_plan"]) fun _ _ _ _ _ _ us hl => match us, hl with | [_, _], _ => rfl)
/-! _law_at -/
abbrev g__law_at_1 : FS := (sRet (fBin gAdd (vI 1) (frz (fBin gIx (vI 0) (frz (fBin gMod (frz (fCal gInt (aOne (vP 1)))) (frz (fCal gLen (aOne (vP 0))))))))))
def g__law_at : FS := g__law_at_1
theorem S__law_at : FnScope ["_law_table_here", "_law_place_here"] ["_law_table_here", "_law_place_here"] (defScope (top 30)) := ⟨rfl, rfl, rfl, by decide +kernel, rfl, by decide +kernel, by decide +kernel⟩
theorem kp__law_at (v : Ev K mg base) : PySem.W.keepIn K (.ref (He.ga K "_law_at")) = true := (v.c.def_ 23 (d := d__law_at) rfl).elim fun _ F => F.kp
theorem b__law_at (v : Ev K mg base) (cdv : Value) (A : Around) (outer : List Env) (s : Shared) (H : Hp) (E : XK) (hr : TS.Room 0 (A.deeper (PyProof.Rows.envOfC "_law_at" (defScope (top 30)) s.heap.objs.size (He.ga K "_law_at") cdv))) (tk : Takes (cxOf (L2.CX P w) P w K mg base ["_law_table_here", "_law_place_here"] "_law_at" (defScope (top 30)) (He.ga K "_law_at") cdv A outer s H E) (fun cls d _ H => E cls d H))
    (hp : PassesOwn (model P w) (A.deeper (PyProof.Rows.envOfC "_law_at" (defScope (top 30)) s.heap.objs.size (He.ga K "_law_at") cdv)) (PyProof.Rows.envOfC "_law_at" (defScope (top 30)) s.heap.objs.size (He.ga K "_law_at") cdv) (cxOf (L2.CX P w) P w K mg base ["_law_table_here", "_law_place_here"] "_law_at" (defScope (top 30)) (He.ga K "_law_at") cdv A outer s H E).xe) : DSs (MM K) (fun cls d _ H => E cls d H) (cxOf (L2.CX P w) P w K mg base ["_law_table_here", "_law_place_here"] "_law_at" (defScope (top 30)) (He.ga K "_law_at") cdv A outer s H E) (defBody (top 30)) g__law_at :=
  (dss_one (ds_ret (x_add (di_var (pv 1)) (DE.pk (x_ix hr (di_var (pv 0)) (DE.pk (x_mod (DE.frz (b_int (by rfl) (u_int v) (db_one (dp_var (pv 1))))) (DE.pk (b_len (by rfl) (u_len v) (db_one (dp_var (pv 0))))))))))))
def m__law_at : Fm := mir 2 2 g__law_at
theorem o__law_at (v : Ev K mg base) : ∃ fd, FunD K "_law_at" "_law_at" (defArgs (top 30)) (defBody (top 30)) (defScope (top 30)) [] [] (He.ga K "_law_at") fd ∧ TS.FnOk P w K mg base (L2.CX P w) 1 (He.ga K "_law_at") fd ["_law_table_here", "_law_place_here"] (spD (MM K) m__law_at) := by
  obtain ⟨fd, F⟩ := v.c.def_ 23 (d := d__law_at) rfl
  exact ⟨fd, F, funD_mir (M := MM K) F S__law_at (by decide) (fun cdv A outer s H E hr tk hp => b__law_at v cdv A outer s H E hr tk hp)⟩
theorem f__law_at (v : Ev K mg base) : TS.FnR P w K mg base (L2.CX P w) 1 (He.ga K "_law_at") (spD (MM K) m__law_at) := by
  obtain ⟨fd, F, O⟩ := o__law_at (P := P) (w := w) v
  exact fnR_raw (M := MM K) O (F.bindsN (ps := ["_law_table_here", "_law_place_here"]) fun _ _ _ _ _ _ us hl => match us, hl with | [_, _], _ => rfl)
theorem fk_Plan___call___1_x (v : Ev K mg base) : FnK P w K mg base (L2.CX P w) 5 (He.ma K (He.ga K "Plan") "__call__") 1 ["x"] (spD (MM K) m_Plan___call__) := by
  obtain ⟨fd, F, O⟩ := o_Plan___call__ (P := P) (w := w) v
  exact fnK_app (M := MM K) O (kb_app F fun _ _ _ _ _ _ us ws h1 h2 => match us, ws, h1, h2 with | [_], [_], _, _ => rfl)
theorem TK___call___0_x (v : Ev K mg base) : ∀ n f, tab___call__ n = some f → ∃ C g, (MM K).G n = some C ∧ Cls K C ∧ Meth K C "__call__" g ∧ FnK P w K mg base (L2.CX P w) 5 g 1 ["x"] (spD (MM K) f) := by
  intro n f h
  unfold tab___call__ at h
  split at h
  · cases h
    exact ⟨_, _, rfl, He.cls_ok (v.c.fact 12 (f := .he (.cls "Plan"))), He.meth_ok (v.c.fact 63 (f := .he (.meth "Plan" "__call__"))), (fk_Plan___call___1_x v).mono (by decide)⟩
  · cases h
theorem CT_x (v : Ev K mg base) : CallTK (MM K) P w mg base 5 ["x"] tab___call__ := by
  intro n f h
  unfold tab___call__ at h
  split at h
  · cases h
    exact ⟨_, _, rfl, ((v.c.def_ 20 (d := d_Plan___call__) rfl).elim fun _ F => callO_of (He.meth_ok (v.c.fact 63 (f := .he (.meth "Plan" "__call__")))) F), (fk_Plan___call___1_x v).mono (by decide)⟩
  · cases h
theorem fk_Plan_at_1_x (v : Ev K mg base) : FnK P w K mg base (L2.CX P w) 4 (He.ma K (He.ga K "Plan") "at") 1 ["x"] (spD (MM K) m_Plan_at) := by
  obtain ⟨fd, F, O⟩ := o_Plan_at (P := P) (w := w) v
  exact fnK_app (M := MM K) O (kb_app F fun _ _ _ _ _ _ us ws h1 h2 => match us, ws, h1, h2 with | [_], [_], _, _ => rfl)
theorem TK_at_0_x (v : Ev K mg base) : ∀ n f, tab_at n = some f → ∃ C g, (MM K).G n = some C ∧ Cls K C ∧ Meth K C "at" g ∧ FnK P w K mg base (L2.CX P w) 4 g 1 ["x"] (spD (MM K) f) := by
  intro n f h
  unfold tab_at at h
  split at h
  · cases h
    exact ⟨_, _, rfl, He.cls_ok (v.c.fact 12 (f := .he (.cls "Plan"))), He.meth_ok (v.c.fact 61 (f := .he (.meth "Plan" "at"))), (fk_Plan_at_1_x v).mono (by decide)⟩
  · cases h
/-! _law_is_place -/
abbrev g__law_is_place_1 : FS := (sRet (fAndV (fIsi is_int (vP 0)) (toE (fNotV (fIsi is_bool (vP 0))))))
def g__law_is_place : FS := g__law_is_place_1
theorem S__law_is_place : FnScope ["_law_thing"] ["_law_thing"] (defScope (top 31)) := ⟨rfl, rfl, rfl, by decide +kernel, rfl, by decide +kernel, by decide +kernel⟩
theorem kp__law_is_place (v : Ev K mg base) : PySem.W.keepIn K (.ref (He.ga K "_law_is_place")) = true := (v.c.def_ 24 (d := d__law_is_place) rfl).elim fun _ F => F.kp
theorem b__law_is_place (v : Ev K mg base) (cdv : Value) (A : Around) (outer : List Env) (s : Shared) (H : Hp) (E : XK) (hr : TS.Room 0 (A.deeper (PyProof.Rows.envOfC "_law_is_place" (defScope (top 31)) s.heap.objs.size (He.ga K "_law_is_place") cdv))) (tk : Takes (cxOf (L2.CX P w) P w K mg base ["_law_thing"] "_law_is_place" (defScope (top 31)) (He.ga K "_law_is_place") cdv A outer s H E) (fun cls d _ H => E cls d H))
    (hp : PassesOwn (model P w) (A.deeper (PyProof.Rows.envOfC "_law_is_place" (defScope (top 31)) s.heap.objs.size (He.ga K "_law_is_place") cdv)) (PyProof.Rows.envOfC "_law_is_place" (defScope (top 31)) s.heap.objs.size (He.ga K "_law_is_place") cdv) (cxOf (L2.CX P w) P w K mg base ["_law_thing"] "_law_is_place" (defScope (top 31)) (He.ga K "_law_is_place") cdv A outer s H E).xe) : DSs (MM K) (fun cls d _ H => E cls d H) (cxOf (L2.CX P w) P w K mg base ["_law_thing"] "_law_is_place" (defScope (top 31)) (He.ga K "_law_is_place") cdv A outer s H E) (defBody (top 31)) g__law_is_place :=
  (dss_one (ds_ret (de_and (b_isi (by rfl) (u_isinstance v) (dp_var (pv 0)) (k_ty bt_int (by rfl) (u_int v)) (ClsV.ty "int") is_int_ok) (de_one (DI.toE (di_not (b_isi (by rfl) (u_isinstance v) (dp_var (pv 0)) (k_ty bt_bool (by rfl) (u_bool v)) (ClsV.ty "bool") is_bool_ok)))))))
def m__law_is_place : Fm := mir 1 1 g__law_is_place
theorem o__law_is_place (v : Ev K mg base) : ∃ fd, FunD K "_law_is_place" "_law_is_place" (defArgs (top 31)) (defBody (top 31)) (defScope (top 31)) [] [] (He.ga K "_law_is_place") fd ∧ TS.FnOk P w K mg base (L2.CX P w) 1 (He.ga K "_law_is_place") fd ["_law_thing"] (spD (MM K) m__law_is_place) := by
  obtain ⟨fd, F⟩ := v.c.def_ 24 (d := d__law_is_place) rfl
  exact ⟨fd, F, funD_mir (M := MM K) F S__law_is_place (by decide) (fun cdv A outer s H E hr tk hp => b__law_is_place v cdv A outer s H E hr tk hp)⟩
theorem f__law_is_place (v : Ev K mg base) : TS.FnR P w K mg base (L2.CX P w) 1 (He.ga K "_law_is_place") (spD (MM K) m__law_is_place) := by
  obtain ⟨fd, F, O⟩ := o__law_is_place (P := P) (w := w) v
  exact fnR_raw (M := MM K) O (F.bindsN (ps := ["_law_thing"]) fun _ _ _ _ _ _ us hl => match us, hl with | [_], _ => rfl)
theorem fk_Plan_back_1_x (v : Ev K mg base) : FnK P w K mg base (L2.CX P w) 4 (He.ma K (He.ga K "Plan") "back") 1 ["x"] (spD (MM K) m_Plan_back) := by
  obtain ⟨fd, F, O⟩ := o_Plan_back (P := P) (w := w) v
  exact fnK_app (M := MM K) O (kb_app F fun _ _ _ _ _ _ us ws h1 h2 => match us, ws, h1, h2 with | [_], [_], _, _ => rfl)
theorem TK_back_0_x (v : Ev K mg base) : ∀ n f, tab_back n = some f → ∃ C g, (MM K).G n = some C ∧ Cls K C ∧ Meth K C "back" g ∧ FnK P w K mg base (L2.CX P w) 4 g 1 ["x"] (spD (MM K) f) := by
  intro n f h
  unfold tab_back at h
  split at h
  · cases h
    exact ⟨_, _, rfl, He.cls_ok (v.c.fact 12 (f := .he (.cls "Plan"))), He.meth_ok (v.c.fact 64 (f := .he (.meth "Plan" "back"))), (fk_Plan_back_1_x v).mono (by decide)⟩
  · cases h
/-! _law_source -/
abbrev g__law_source_1 : FS := (sAsg (fCal gLen (aOne (vP 0))) (tName 2))
abbrev g__law_source_2 : FS := (sAsg (fLc (stName 4) [4] (itRg1 (vI 2)) (fTst (fBin gEq (frz (fBin gMod (frz (fCal gInt (aOne (frz (fBin gAdd (vI 4) (frz (fBin gIx (vI 0) (vP 4)))))))) (vP 2))) (frz (fBin gMod (frz (fCal gInt (aOne (vP 1)))) (vP 2))))) (vI 4)) (tName 3))
abbrev g__law_source_3 : FS := (sRet (fBin gSub (vI 1) (frz (fBin gIx (vI 0) (frz (fBin gIx (vI 3) (kD (.int 0))))))))
def g__law_source : FS := (sSeq g__law_source_1 (sSeq g__law_source_2 g__law_source_3))
theorem S__law_source : FnScope ["_law_table_here", "_law_place_here", "_law_many", "_law_found", "_law_spot"] ["_law_table_here", "_law_place_here"] (defScope (top 32)) := ⟨rfl, rfl, rfl, by decide +kernel, rfl, by decide +kernel, by decide +kernel⟩
theorem kp__law_source (v : Ev K mg base) : PySem.W.keepIn K (.ref (He.ga K "_law_source")) = true := (v.c.def_ 25 (d := d__law_source) rfl).elim fun _ F => F.kp
theorem b__law_source (v : Ev K mg base) (cdv : Value) (A : Around) (outer : List Env) (s : Shared) (H : Hp) (E : XK) (hr : TS.Room 0 (A.deeper (PyProof.Rows.envOfC "_law_source" (defScope (top 32)) s.heap.objs.size (He.ga K "_law_source") cdv))) (tk : Takes (cxOf (L2.CX P w) P w K mg base ["_law_table_here", "_law_place_here", "_law_many", "_law_found", "_law_spot"] "_law_source" (defScope (top 32)) (He.ga K "_law_source") cdv A outer s H E) (fun cls d _ H => E cls d H))
    (hp : PassesOwn (model P w) (A.deeper (PyProof.Rows.envOfC "_law_source" (defScope (top 32)) s.heap.objs.size (He.ga K "_law_source") cdv)) (PyProof.Rows.envOfC "_law_source" (defScope (top 32)) s.heap.objs.size (He.ga K "_law_source") cdv) (cxOf (L2.CX P w) P w K mg base ["_law_table_here", "_law_place_here", "_law_many", "_law_found", "_law_spot"] "_law_source" (defScope (top 32)) (He.ga K "_law_source") cdv A outer s H E).xe) : DSs (MM K) (fun cls d _ H => E cls d H) (cxOf (L2.CX P w) P w K mg base ["_law_table_here", "_law_place_here", "_law_many", "_law_found", "_law_spot"] "_law_source" (defScope (top 32)) (He.ga K "_law_source") cdv A outer s H E) (defBody (top 32)) g__law_source :=
  (dss_cons (ds_set (i := 2) S__law_source.nd (by rfl) (by first | exact Or.inl rfl | exact Or.inr rfl) (b_len (by rfl) (u_len v) (db_one (dp_var (pv 0)))))
    (dss_cons (ds_setLc (i := 3) (own := [("_law_spot", 4)]) (by rfl) (by rfl) S__law_source.nd (by rfl) (by rfl) (by rfl) (dit_rg1 (by rfl) (u_range v) (di_var (pv 2))) (blkOk_by (by kernel_rfl)) (st_name 4) (fun _ _ _ _ _ => pg_name S__law_source.nd (by rfl) (by first | exact Or.inl rfl | exact Or.inr rfl)) (fun _ _ _ _ _ => pts_if (t_eq hr (DE.frz (x_mod (DE.frz (b_int (by rfl) (u_int v) (db_one (DE.pk (x_add (di_var (pv 4)) (DE.pk (x_ix hr (di_var (pv 0)) (dp_var (pv 4))))))))) (dp_var (pv 2)))) (DE.pk (x_mod (DE.frz (b_int (by rfl) (u_int v) (db_one (dp_var (pv 1))))) (dp_var (pv 2)))))) (fun _ _ _ _ _ => (di_var (pv 4))))
    (dss_one (ds_ret (x_sub (di_var (pv 1)) (DE.pk (x_ix hr (di_var (pv 0)) (DE.pk (x_ix hr (di_var (pv 3)) (DI.pk di_int))))))))))
def m__law_source : Fm := mir 5 2 g__law_source
theorem o__law_source (v : Ev K mg base) : ∃ fd, FunD K "_law_source" "_law_source" (defArgs (top 32)) (defBody (top 32)) (defScope (top 32)) [] [] (He.ga K "_law_source") fd ∧ TS.FnOk P w K mg base (L2.CX P w) 1 (He.ga K "_law_source") fd ["_law_table_here", "_law_place_here"] (spD (MM K) m__law_source) := by
  obtain ⟨fd, F⟩ := v.c.def_ 25 (d := d__law_source) rfl
  exact ⟨fd, F, funD_mir (M := MM K) F S__law_source (by decide) (fun cdv A outer s H E hr tk hp => b__law_source v cdv A outer s H E hr tk hp)⟩
theorem f__law_source (v : Ev K mg base) : TS.FnR P w K mg base (L2.CX P w) 1 (He.ga K "_law_source") (spD (MM K) m__law_source) := by
  obtain ⟨fd, F, O⟩ := o__law_source (P := P) (w := w) v
  exact fnR_raw (M := MM K) O (F.bindsN (ps := ["_law_table_here", "_law_place_here"]) fun _ _ _ _ _ _ us hl => match us, hl with | [_, _], _ => rfl)
/-! _law_asked_right -/
abbrev g__law_asked_right_1 : FS := (sAsg (fOwn m__law_at (aCons (vI 1) (aCons (vI 2) aNil))) (tName 3))
abbrev g__law_asked_right_2 : FS := (sAsg (fLst (aCons (frz (fMeth tab_at (vI 0) (aCons (vI 2) aNil))) (aCons (frz (fMeth tab___call__ (vI 0) (aCons (vI 2) aNil))) (aCons (frz (fMethK tab_at 0 1 (vI 0) aNil (aCons (vI 2) aNil))) (aCons (frz (fMethK tab___call__ 0 1 (vI 0) aNil (aCons (vI 2) aNil))) aNil))))) (tName 4))
abbrev g__law_asked_right_3a_1 : FS := (sRet (toE (kD (.bl false))))
abbrev g__law_asked_right_3 : FS := (sIf (fOr (fTst (fBin gNe (vI 4) (frz (fBin gMul (frz (fLst (aCons (vI 3) aNil))) (kD (.int 4)))))) (fNot (fTst (fCal gAll (aOne (frz (fLc (stName 6) [6] (itSeq (vI 4)) tTrue (frz (fOwn m__law_is_place (aCons (vI 6) aNil)))))))))) g__law_asked_right_3a_1 sNil)
abbrev g__law_asked_right_4 : FS := (sAsg (fMeth tab_back (vI 0) (aCons (vI 2) aNil)) (tName 5))
abbrev g__law_asked_right_5a_1 : FS := (sRet (toE (kD (.bl false))))
abbrev g__law_asked_right_5 : FS := (sIf (fOr (fNot (fTst (fOwn m__law_is_place (aCons (vI 5) aNil)))) (fOr (fTst (fBin gNe (vI 5) (frz (fOwn m__law_source (aCons (vI 1) (aCons (vI 2) aNil)))))) (fTst (fBin gNe (frz (fMethK tab_back 0 1 (vI 0) aNil (aCons (vI 2) aNil))) (vP 5))))) g__law_asked_right_5a_1 sNil)
abbrev g__law_asked_right_6 : FS := (sRet (fAndV (frz (fBin gEq (frz (fMeth tab_back (vI 0) (aCons (vI 3) aNil))) (vP 2))) (fBin gEq (frz (fMeth tab_at (vI 0) (aCons (vI 5) aNil))) (vP 2))))
def g__law_asked_right : FS := (sSeq g__law_asked_right_1 (sSeq g__law_asked_right_2 (sSeq g__law_asked_right_3 (sSeq g__law_asked_right_4 (sSeq g__law_asked_right_5 g__law_asked_right_6)))))
theorem S__law_asked_right : FnScope ["_law_plan", "_law_table_here", "_law_place_here", "_law_there", "_law_told", "_law_source_here", "_law_one"] ["_law_plan", "_law_table_here", "_law_place_here"] (defScope (top 33)) := ⟨rfl, rfl, rfl, by decide +kernel, rfl, by decide +kernel, by decide +kernel⟩
theorem kp__law_asked_right (v : Ev K mg base) : PySem.W.keepIn K (.ref (He.ga K "_law_asked_right")) = true := (v.c.def_ 26 (d := d__law_asked_right) rfl).elim fun _ F => F.kp
theorem b__law_asked_right (v : Ev K mg base) (cdv : Value) (A : Around) (outer : List Env) (s : Shared) (H : Hp) (E : XK) (hr : TS.Room 5 (A.deeper (PyProof.Rows.envOfC "_law_asked_right" (defScope (top 33)) s.heap.objs.size (He.ga K "_law_asked_right") cdv))) (tk : Takes (cxOf (L2.CX P w) P w K mg base ["_law_plan", "_law_table_here", "_law_place_here", "_law_there", "_law_told", "_law_source_here", "_law_one"] "_law_asked_right" (defScope (top 33)) (He.ga K "_law_asked_right") cdv A outer s H E) (fun cls d _ H => E cls d H))
    (hp : PassesOwn (model P w) (A.deeper (PyProof.Rows.envOfC "_law_asked_right" (defScope (top 33)) s.heap.objs.size (He.ga K "_law_asked_right") cdv)) (PyProof.Rows.envOfC "_law_asked_right" (defScope (top 33)) s.heap.objs.size (He.ga K "_law_asked_right") cdv) (cxOf (L2.CX P w) P w K mg base ["_law_plan", "_law_table_here", "_law_place_here", "_law_there", "_law_told", "_law_source_here", "_law_one"] "_law_asked_right" (defScope (top 33)) (He.ga K "_law_asked_right") cdv A outer s H E).xe) : DSs (MM K) (fun cls d _ H => E cls d H) (cxOf (L2.CX P w) P w K mg base ["_law_plan", "_law_table_here", "_law_place_here", "_law_there", "_law_told", "_law_source_here", "_law_one"] "_law_asked_right" (defScope (top 33)) (He.ga K "_law_asked_right") cdv A outer s H E) (defBody (top 33)) g__law_asked_right :=
  (dss_cons (ds_set (i := 3) S__law_asked_right.nd (by rfl) (by first | exact Or.inl rfl | exact Or.inr rfl) (d_own (fun h => pe_own ((f__law_at v).mono (by decide)) hr tk (by rfl) (u__law_at v) (kp__law_at v) h) (da_cons (di_var (pv 1)) (da_cons (di_var (pv 2)) da_nil))))
    (dss_cons (ds_set (i := 4) S__law_asked_right.nd (by rfl) (by first | exact Or.inl rfl | exact Or.inr rfl) (de_lst (da_cons (DE.frz (d_meth (fun h h' => pe_methD h (methOk_of (T_at v)) (hr.mono (by decide : 4 ≤ 5)) tk h') n_at (di_var (pv 0)) (da_cons (di_var (pv 2)) da_nil))) (da_cons (DE.frz (d_inst rfl (CT v) (hr.mono (by decide : 5 ≤ 5)) tk (di_var (pv 0)) (da_cons (di_var (pv 2)) da_nil))) (da_cons (DE.frz (d_methK0 (fun h h' => pe_methK0 h (methOkK_of (TK_at_0_x v)) (hr.mono (by decide : 4 ≤ 5)) tk h') n_at (di_var (pv 0)) (dk_cons (di_var (pv 2)) dk_nil))) (da_cons (DE.frz (d_instK rfl (CT_x v) (hr.mono (by decide : 5 ≤ 5)) tk (di_var (pv 0)) (dk_cons (di_var (pv 2)) dk_nil))) da_nil))))))
    (dss_cons (ds_if (DW.pt (dw_or (t_ne hr (di_var (pv 4)) (DE.pk (x_mul (DE.frz (de_lst (da_cons (di_var (pv 3)) da_nil))) (DI.pk di_int)))) (dw_or1 (dt_not (dt_val (b_all (by rfl) (by rfl) (u_all v) (db_one (DE.pk (de_lc (own := [("_law_one", 6)]) (by rfl) (by rfl) S__law_asked_right.nd (dit_list (di_var (pv 4))) (blkOk_by (by kernel_rfl)) (st_name 6) (fun _ _ _ _ _ => pg_name S__law_asked_right.nd (by rfl) (by first | exact Or.inl rfl | exact Or.inr rfl)) (fun _ _ _ _ _ => pts_no) (fun _ _ _ _ _ => (DE.frz (d_own (fun h => pe_own ((f__law_is_place v).mono (by decide)) hr TS.takes0 (by rfl) (u__law_is_place v) (kp__law_is_place v) h) (da_cons (di_var (pv 6)) da_nil))))))))))))) (dss_one (ds_ret (DI.toE di_bl))) dss_nil)
    (dss_cons (ds_set (i := 5) S__law_asked_right.nd (by rfl) (by first | exact Or.inl rfl | exact Or.inr rfl) (d_meth (fun h h' => pe_methD h (methOk_of (T_back v)) (hr.mono (by decide : 4 ≤ 5)) tk h') n_back (di_var (pv 0)) (da_cons (di_var (pv 2)) da_nil)))
    (dss_cons (ds_if (DW.pt (dw_or (dt_not (dt_val (d_own (fun h => pe_own ((f__law_is_place v).mono (by decide)) hr tk (by rfl) (u__law_is_place v) (kp__law_is_place v) h) (da_cons (di_var (pv 5)) da_nil)))) (dw_or (t_ne hr (di_var (pv 5)) (DE.pk (d_own (fun h => pe_own ((f__law_source v).mono (by decide)) hr tk (by rfl) (u__law_source v) (kp__law_source v) h) (da_cons (di_var (pv 1)) (da_cons (di_var (pv 2)) da_nil))))) (dw_or1 (t_ne hr (DE.frz (d_methK0 (fun h h' => pe_methK0 h (methOkK_of (TK_back_0_x v)) (hr.mono (by decide : 4 ≤ 5)) tk h') n_back (di_var (pv 0)) (dk_cons (di_var (pv 2)) dk_nil))) (dp_var (pv 5))))))) (dss_one (ds_ret (DI.toE di_bl))) dss_nil)
    (dss_one (ds_ret (de_and (DE.frz (x_eq hr (DE.frz (d_meth (fun h h' => pe_methD h (methOk_of (T_back v)) (hr.mono (by decide : 4 ≤ 5)) tk h') n_back (di_var (pv 0)) (da_cons (di_var (pv 3)) da_nil))) (dp_var (pv 2)))) (de_one (x_eq hr (DE.frz (d_meth (fun h h' => pe_methD h (methOk_of (T_at v)) (hr.mono (by decide : 4 ≤ 5)) tk h') n_at (di_var (pv 0)) (da_cons (di_var (pv 5)) da_nil))) (dp_var (pv 2))))))))))))
def m__law_asked_right : Fm := mir 7 3 g__law_asked_right
theorem o__law_asked_right (v : Ev K mg base) : ∃ fd, FunD K "_law_asked_right" "_law_asked_right" (defArgs (top 33)) (defBody (top 33)) (defScope (top 33)) [] [] (He.ga K "_law_asked_right") fd ∧ TS.FnOk P w K mg base (L2.CX P w) 6 (He.ga K "_law_asked_right") fd ["_law_plan", "_law_table_here", "_law_place_here"] (spD (MM K) m__law_asked_right) := by
  obtain ⟨fd, F⟩ := v.c.def_ 26 (d := d__law_asked_right) rfl
  exact ⟨fd, F, funD_mir (M := MM K) F S__law_asked_right (by decide) (fun cdv A outer s H E hr tk hp => b__law_asked_right v cdv A outer s H E hr tk hp)⟩
theorem f__law_asked_right (v : Ev K mg base) : TS.FnR P w K mg base (L2.CX P w) 6 (He.ga K "_law_asked_right") (spD (MM K) m__law_asked_right) := by
  obtain ⟨fd, F, O⟩ := o__law_asked_right (P := P) (w := w) v
  exact fnR_raw (M := MM K) O (F.bindsN (ps := ["_law_plan", "_law_table_here", "_law_place_here"]) fun _ _ _ _ _ _ us hl => match us, hl with | [_, _, _], _ => rfl)
theorem fk_Plan_shift_1_n (v : Ev K mg base) : FnK P w K mg base (L2.CX P w) 6 (uA "classmethod" "Plan" "shift" K) 1 ["n"] (spD (MM K) m_Plan_shift) := by
  obtain ⟨fd, F, O⟩ := o_Plan_shift (P := P) (w := w) v
  exact fnK_app (M := MM K) O (kb_app F fun _ _ _ _ _ _ us ws h1 h2 => match us, ws, h1, h2 with | [_], [_], _, _ => rfl)
/-! _law_right -/
abbrev g__law_right_1 : FS := (sAsg (fOwnIo m__law_choice 0 (aCons (frz (fLst (aCons (kD (.int 1)) (aCons (kD (.int 2)) (aCons (kD (.int 3)) (aCons (kD (.int 4)) (aCons (kD (.int 5)) (aCons (kD (.int 6)) (aCons (kD (.int 7)) (aCons (kD (.int 8)) (aCons (kD (.int 9)) (aCons (kD (.int 10)) (aCons (kD (.int 11)) (aCons (kD (.int 12)) (aCons (kD (.int 60)) aNil))))))))))))))) aNil)) (tName 1))
abbrev g__law_right_2 : FS := (sAsg (fOwnIo m__law_table 0 (aCons (vI 1) (aCons (frz (fOwnIo m__law_draw 0 (aCons (kD (.int 3)) aNil))) aNil))) (tName 2))
abbrev g__law_right_3 : FS := (sAsg (toE (fTup (aCons (frz (fMake 0 m_Plan___init__ (aCons (vI 2) aNil))) (aCons (frz (fOwnIo m__law_place 0 aNil)) (aCons (frz (fCMeth 0 m_Plan_identity aNil)) aNil))))) (tTup 3 (tsCons (tName 6) (tsCons (tName 7) (tsCons (tName 8) tsNil)))))
abbrev g__law_right_4 : FS := (sAsg (fCMeth 0 m_Plan_shift (aCons (vI 7) aNil)) (tName 3))
abbrev g__law_right_5_1 : FS := (sAsg (fOwnIo m__law_place 0 aNil) (tName 9))
abbrev g__law_right_5_2_1a_1 : FS := (sRet (toE (kD (.bl false))))
abbrev g__law_right_5_2_1 : FS := (sIf (fOr (fNot (fTst (fOwn m__law_asked_right (aCons (vI 6) (aCons (vI 2) (aCons (vI 10) aNil)))))) (fNot (fTst (fOwnIo m__law_refused_right 0 (aCons (vI 6) aNil))))) g__law_right_5_2_1a_1 sNil)
abbrev g__law_right_5_2B : FS := g__law_right_5_2_1
abbrev g__law_right_5_2 : FS := (sFor (itSeq (frz (fLst (aCons (vI 9) (aCons (frz (fBin gAdd (vI 9) (vP 1))) (aCons (frz (fBin gSub (vI 9) (vP 1))) (aCons (frz (fBin gAdd (vI 9) (kD (.int 1)))) aNil))))))) (tName 10) g__law_right_5_2B)
abbrev g__law_right_5_3a_1 : FS := (sRet (toE (kD (.bl false))))
abbrev g__law_right_5_3 : FS := (sIf (fOr (fNot (fTst (fOwn m__law_asked_right (aCons (vI 3) (aCons (frz (fLst (aCons (vI 7) aNil))) (aCons (vI 9) aNil)))))) (fNot (fTst (fOwn m__law_asked_right (aCons (vI 8) (aCons (frz (fLst (aCons (kD (.int 0)) aNil))) (aCons (vI 9) aNil))))))) g__law_right_5_3a_1 sNil)
abbrev g__law_right_5B : FS := (sSeq g__law_right_5_1 (sSeq g__law_right_5_2 g__law_right_5_3))
abbrev g__law_right_5 : FS := (sFor (itRg1 (kD (.int 10))) (tName 4) g__law_right_5B)
abbrev g__law_right_6 : FS := (sAsg (fLc (stName 9) [9] (itRg2 (fUnI (fun i => -i) (vI 1)) (frz (fBin gMul (kD (.int 2)) (vP 1)))) tTrue (frz (fMeth tab_at (vI 6) (aCons (vI 9) aNil)))) (tName 5))
abbrev g__law_right_7 : FS := (sRet (fAndV (frz (fBin gEq (fLenSet (vP 5)) (frz (fBin gMul (kD (.int 3)) (vP 1))))) (fBin gEq (frz (fMeth tab_at (frz (fCMethK 0 m_Plan_shift 1 (aCons (vI 7) aNil))) (aCons (kD (.int 0)) aNil))) (vP 7))))
def g__law_right : FS := (sSeq g__law_right_1 (sSeq g__law_right_2 (sSeq g__law_right_3 (sSeq g__law_right_4 (sSeq g__law_right_5 (sSeq g__law_right_6 g__law_right_7))))))
theorem S__law_right : FnScope ["_law_pot_here", "_law_many", "_law_table_here", "_law_slide", "_law_turn", "_law_goals", "_law_plan", "_law_number", "_law_nothing", "_law_place_here", "_law_spot"] ["_law_pot_here"] (defScope (top 36)) := ⟨rfl, rfl, rfl, by decide +kernel, rfl, by decide +kernel, by decide +kernel⟩
theorem kp__law_right (v : Ev K mg base) : PySem.W.keepIn K (.ref (He.ga K "_law_right")) = true := (v.c.def_ 27 (d := d__law_right) rfl).elim fun _ F => F.kp
theorem b__law_right (v : Ev K mg base) (cdv : Value) (A : Around) (outer : List Env) (s : Shared) (H : Hp) (E : XK) (hr : TS.Room 9 (A.deeper (PyProof.Rows.envOfC "_law_right" (defScope (top 36)) s.heap.objs.size (He.ga K "_law_right") cdv))) (tk : Takes (cxOf (L2.CX P w) P w K mg base ["_law_pot_here", "_law_many", "_law_table_here", "_law_slide", "_law_turn", "_law_goals", "_law_plan", "_law_number", "_law_nothing", "_law_place_here", "_law_spot"] "_law_right" (defScope (top 36)) (He.ga K "_law_right") cdv A outer s H E) (fun cls d _ H => E cls d H))
    (hp : PassesOwn (model P w) (A.deeper (PyProof.Rows.envOfC "_law_right" (defScope (top 36)) s.heap.objs.size (He.ga K "_law_right") cdv)) (PyProof.Rows.envOfC "_law_right" (defScope (top 36)) s.heap.objs.size (He.ga K "_law_right") cdv) (cxOf (L2.CX P w) P w K mg base ["_law_pot_here", "_law_many", "_law_table_here", "_law_slide", "_law_turn", "_law_goals", "_law_plan", "_law_number", "_law_nothing", "_law_place_here", "_law_spot"] "_law_right" (defScope (top 36)) (He.ga K "_law_right") cdv A outer s H E).xe) : DSs (MM K) (fun cls d _ H => E cls d H) (cxOf (L2.CX P w) P w K mg base ["_law_pot_here", "_law_many", "_law_table_here", "_law_slide", "_law_turn", "_law_goals", "_law_plan", "_law_number", "_law_nothing", "_law_place_here", "_law_spot"] "_law_right" (defScope (top 36)) (He.ga K "_law_right") cdv A outer s H E) (defBody (top 36)) g__law_right :=
  (dss_cons (ds_set (i := 1) S__law_right.nd (by rfl) (by first | exact Or.inl rfl | exact Or.inr rfl) (d_ownIo (fun h => pe_own ((f__law_choice v).mono (by decide)) hr tk (by rfl) (u__law_choice v) (kp__law_choice v) h) (pv 0) (da_cons (DE.frz (de_lst (da_cons di_int (da_cons di_int (da_cons di_int (da_cons di_int (da_cons di_int (da_cons di_int (da_cons di_int (da_cons di_int (da_cons di_int (da_cons di_int (da_cons di_int (da_cons di_int (da_cons di_int da_nil))))))))))))))) da_nil)))
    (dss_cons (ds_set (i := 2) S__law_right.nd (by rfl) (by first | exact Or.inl rfl | exact Or.inr rfl) (d_ownIo (fun h => pe_own ((f__law_table v).mono (by decide)) hr tk (by rfl) (u__law_table v) (kp__law_table v) h) (pv 0) (da_cons (di_var (pv 1)) (da_cons (DE.frz (d_ownIo (fun h => pe_own ((f__law_draw v).mono (by decide)) hr tk (by rfl) (u__law_draw v) (kp__law_draw v) h) (pv 0) (da_cons di_int da_nil))) da_nil))))
    (dss_cons (ds_asg (DI.toE (di_tup (da_cons (DE.frz (d_make (fun h => pe_makeS (He.mkr_ok (v.c.fact 37 (f := .he (.mkr "Plan")))) ((f_Plan___init__ v).mono (by decide)) (hr.mono (by decide : 5 ≤ 9)) tk (by rfl) (u_Plan v) h) rfl (da_cons (di_var (pv 2)) da_nil))) (da_cons (DE.frz (d_ownIo (fun h => pe_own ((f__law_place v).mono (by decide)) hr tk (by rfl) (u__law_place v) (kp__law_place v) h) (pv 0) da_nil)) (da_cons (DE.frz (d_cmeth0 (pe_cm0 (pe_glob (by rfl) (u_Plan v) (by rfl)) (cread_ok (v.c.fact 32 (f := .cread "Plan"))) (cmet_ok (v.c.fact 38 (f := .cmet "Plan" "identity"))) ((f_Plan_identity v).mono (by decide)) hr tk) rfl)) da_nil))))) (dg_tup (by rfl) (dgs_cons (dg_name (pg_name S__law_right.nd (by rfl) (by first | exact Or.inl rfl | exact Or.inr rfl))) (dgs_cons (dg_name (pg_name S__law_right.nd (by rfl) (by first | exact Or.inl rfl | exact Or.inr rfl))) (dgs_cons (dg_name (pg_name S__law_right.nd (by rfl) (by first | exact Or.inl rfl | exact Or.inr rfl))) dgs_nil)))) (tgt_tup (tgs_cons (tgt_name 6) (tgs_cons (tgt_name 7) (tgs_cons (tgt_name 8) tgs_nil)))))
    (dss_cons (ds_set (i := 3) S__law_right.nd (by rfl) (by first | exact Or.inl rfl | exact Or.inr rfl) (d_cmeth (fun h => pe_cm (pe_glob (by rfl) (u_Plan v) (by rfl)) (cread_ok (v.c.fact 32 (f := .cread "Plan"))) (cmet_ok (v.c.fact 44 (f := .cmet "Plan" "shift"))) ((f_Plan_shift v).mono (by decide)) hr tk h) rfl (da_cons (di_var (pv 7)) da_nil)))
    (dss_cons (ds_for hp (by rfl) (dit_rg1 (by rfl) (u_range v) di_int) (dg_name (pg_name S__law_right.nd (by rfl) (by first | exact Or.inl rfl | exact Or.inr rfl))) (tgt_name 4) (dss_cons (ds_set (i := 9) S__law_right.nd (by rfl) (by first | exact Or.inl rfl | exact Or.inr rfl) (d_ownIo (fun h => pe_own ((f__law_place v).mono (by decide)) hr tk (by rfl) (u__law_place v) (kp__law_place v) h) (pv 0) da_nil))
    (dss_cons (ds_for hp (by rfl) (dit_list (DE.frz (de_lst (da_cons (di_var (pv 9)) (da_cons (DE.frz (x_add (di_var (pv 9)) (dp_var (pv 1)))) (da_cons (DE.frz (x_sub (di_var (pv 9)) (dp_var (pv 1)))) (da_cons (DE.frz (x_add (di_var (pv 9)) (DI.pk di_int))) da_nil))))))) (dg_name (pg_name S__law_right.nd (by rfl) (by first | exact Or.inl rfl | exact Or.inr rfl))) (tgt_name 10) (dss_one (ds_if (DW.pt (dw_or (dt_not (dt_val (d_own (fun h => pe_own ((f__law_asked_right v).mono (by decide)) hr tk (by rfl) (u__law_asked_right v) (kp__law_asked_right v) h) (da_cons (di_var (pv 6)) (da_cons (di_var (pv 2)) (da_cons (di_var (pv 10)) da_nil)))))) (dw_or1 (dt_not (dt_val (d_ownIo (fun h => pe_own ((f__law_refused_right v).mono (by decide)) hr tk (by rfl) (u__law_refused_right v) (kp__law_refused_right v) h) (pv 0) (da_cons (di_var (pv 6)) da_nil))))))) (dss_one (ds_ret (DI.toE di_bl))) dss_nil)))
    (dss_one (ds_if (DW.pt (dw_or (dt_not (dt_val (d_own (fun h => pe_own ((f__law_asked_right v).mono (by decide)) hr tk (by rfl) (u__law_asked_right v) (kp__law_asked_right v) h) (da_cons (di_var (pv 3)) (da_cons (DE.frz (de_lst (da_cons (di_var (pv 7)) da_nil))) (da_cons (di_var (pv 9)) da_nil)))))) (dw_or1 (dt_not (dt_val (d_own (fun h => pe_own ((f__law_asked_right v).mono (by decide)) hr tk (by rfl) (u__law_asked_right v) (kp__law_asked_right v) h) (da_cons (di_var (pv 8)) (da_cons (DE.frz (de_lst (da_cons di_int da_nil))) (da_cons (di_var (pv 9)) da_nil))))))))) (dss_one (ds_ret (DI.toE di_bl))) dss_nil)))))
    (dss_cons (ds_setLc (i := 5) (own := [("_law_place_here", 9)]) (by rfl) (by rfl) S__law_right.nd (by rfl) (by rfl) (by rfl) (dit_rg2 (by rfl) (u_range v) (di_neg (di_var (pv 1))) (DE.frz (x_mul di_int (dp_var (pv 1))))) (blkOk_by (by kernel_rfl)) (st_name 9) (fun _ _ _ _ _ => pg_name S__law_right.nd (by rfl) (by first | exact Or.inl rfl | exact Or.inr rfl)) (fun _ _ _ _ _ => pts_no) (fun _ _ _ _ _ => (DE.frz (d_meth (fun h h' => pe_methD h (methOk_of (T_at v)) (hr.mono (by decide : 4 ≤ 9)) TS.takes0 h') n_at (di_var (pv 6)) (da_cons (di_var (pv 9)) da_nil)))))
    (dss_one (ds_ret (de_and (DE.frz (x_eq hr (di_lenSet (by rfl) (by rfl) (u_len v) (by rfl) (u_set v) (dp_var (pv 5))) (DE.pk (x_mul di_int (dp_var (pv 1)))))) (de_one (x_eq hr (DE.frz (d_meth (fun h h' => pe_methD h (methOk_of (T_at v)) (hr.mono (by decide : 4 ≤ 9)) tk h') n_at (DE.frz (d_cmethK (fun h => pe_cmK (pe_glob (by rfl) (u_Plan v) (by rfl)) (cread_ok (v.c.fact 32 (f := .cread "Plan"))) (cmet_ok (v.c.fact 44 (f := .cmet "Plan" "shift"))) ((fk_Plan_shift_1_n v).mono (by decide)) hr tk h) rfl (dk_cons (di_var (pv 7)) dk_nil))) (da_cons di_int da_nil))) (dp_var (pv 7)))))))))))))
def m__law_right : Fm := mir 11 1 g__law_right
theorem o__law_right (v : Ev K mg base) : ∃ fd, FunD K "_law_right" "_law_right" (defArgs (top 36)) (defBody (top 36)) (defScope (top 36)) [] [] (He.ga K "_law_right") fd ∧ TS.FnOk P w K mg base (L2.CX P w) 10 (He.ga K "_law_right") fd ["_law_pot_here"] (spD (MM K) m__law_right) := by
  obtain ⟨fd, F⟩ := v.c.def_ 27 (d := d__law_right) rfl
  exact ⟨fd, F, funD_mir (M := MM K) F S__law_right (by decide) (fun cdv A outer s H E hr tk hp => b__law_right v cdv A outer s H E hr tk hp)⟩
theorem f__law_right (v : Ev K mg base) : TS.FnR P w K mg base (L2.CX P w) 10 (He.ga K "_law_right") (spD (MM K) m__law_right) := by
  obtain ⟨fd, F, O⟩ := o__law_right (P := P) (w := w) v
  exact fnR_raw (M := MM K) O (F.bindsN (ps := ["_law_pot_here"]) fun _ _ _ _ _ _ us hl => match us, hl with | [_], _ => rfl)
/-! _law_pot -/
abbrev g__law_pot_1 : FS := (sAsg (fBin gAdd (frz (fBin gMul (kD (.int 29)) (vP 1))) (kD (.int 11))) (tName 2))
abbrev g__law_pot_2a_1 : FS := (sAsg (fCal gAbs (aOne (frz (fBin gIx (vI 0) (vP 1))))) (tName 2))
abbrev g__law_pot_2 : FS := (sIf (fTst (fBin gLt (vI 1) (frz (fCal gLen (aOne (vP 0)))))) g__law_pot_2a_1 sNil)
abbrev g__law_pot_3 : FS := (sRet (fLst (aCons (frz (fCal gMax (aCons (kD (.int 0)) (aCons (frz (fBin gSub (vI 2) (frz (fBin gPow (kD (.int 10)) (kD (.int 18)))))) aNil)))) (aCons (frz (fBin gAdd (frz (fBin gMod (frz (fCal gInt (aOne (frz (fBin gAdd (frz (fBin gAdd (frz (fBin gMul (frz (fBin gMod (frz (fCal gInt (aOne (vP 2)))) (kD (.int 2147483563)))) (kD (.int 44017)))) (frz (fBin gMul (kD (.int 7129)) (vP 1))))) (kD (.int 53))))))) (kD (.int 2147483629)))) (kD (.int 1)))) aNil))))
def g__law_pot : FS := (sSeq g__law_pot_1 (sSeq g__law_pot_2 g__law_pot_3))
theorem S__law_pot : FnScope ["_law_script", "_law_k", "_law_cell"] ["_law_script", "_law_k"] (defScope (top 23)) := ⟨rfl, rfl, rfl, by decide +kernel, rfl, by decide +kernel, by decide +kernel⟩
theorem kp__law_pot (v : Ev K mg base) : PySem.W.keepIn K (.ref (He.ga K "_law_pot")) = true := (v.c.def_ 28 (d := d__law_pot) rfl).elim fun _ F => F.kp
theorem b__law_pot (v : Ev K mg base) (cdv : Value) (A : Around) (outer : List Env) (s : Shared) (H : Hp) (E : XK) (hr : TS.Room 0 (A.deeper (PyProof.Rows.envOfC "_law_pot" (defScope (top 23)) s.heap.objs.size (He.ga K "_law_pot") cdv))) (tk : Takes (cxOf (L2.CX P w) P w K mg base ["_law_script", "_law_k", "_law_cell"] "_law_pot" (defScope (top 23)) (He.ga K "_law_pot") cdv A outer s H E) (fun cls d _ H => E cls d H))
    (hp : PassesOwn (model P w) (A.deeper (PyProof.Rows.envOfC "_law_pot" (defScope (top 23)) s.heap.objs.size (He.ga K "_law_pot") cdv)) (PyProof.Rows.envOfC "_law_pot" (defScope (top 23)) s.heap.objs.size (He.ga K "_law_pot") cdv) (cxOf (L2.CX P w) P w K mg base ["_law_script", "_law_k", "_law_cell"] "_law_pot" (defScope (top 23)) (He.ga K "_law_pot") cdv A outer s H E).xe) : DSs (MM K) (fun cls d _ H => E cls d H) (cxOf (L2.CX P w) P w K mg base ["_law_script", "_law_k", "_law_cell"] "_law_pot" (defScope (top 23)) (He.ga K "_law_pot") cdv A outer s H E) (defBody (top 23)) g__law_pot :=
  (dss_cons (ds_set (i := 2) S__law_pot.nd (by rfl) (by first | exact Or.inl rfl | exact Or.inr rfl) (x_add (DE.frz (x_mul di_int (dp_var (pv 1)))) (DI.pk di_int)))
    (dss_cons (ds_if (t_lt (di_var (pv 1)) (DE.pk (b_len (by rfl) (u_len v) (db_one (dp_var (pv 0)))))) (dss_one (ds_set (i := 2) S__law_pot.nd (by rfl) (by first | exact Or.inl rfl | exact Or.inr rfl) (b_abs (by rfl) (u_abs v) (db_one (DE.pk (x_ix hr (di_var (pv 0)) (dp_var (pv 1)))))))) dss_nil)
    (dss_one (ds_ret (de_lst (da_cons (DE.frz (b_max (by rfl) (by rfl) (u_max v) (DA.b (da_cons di_int (da_cons (DE.frz (x_sub (di_var (pv 2)) (DE.pk (x_pow di_int (DI.pk di_int))))) da_nil))))) (da_cons (DE.frz (x_add (DE.frz (x_mod (DE.frz (b_int (by rfl) (u_int v) (db_one (DE.pk (x_add (DE.frz (x_add (DE.frz (x_mul (DE.frz (x_mod (DE.frz (b_int (by rfl) (u_int v) (db_one (dp_var (pv 2))))) (DI.pk di_int))) (DI.pk di_int))) (DE.pk (x_mul di_int (dp_var (pv 1)))))) (DI.pk di_int)))))) (DI.pk di_int))) (DI.pk di_int))) da_nil)))))))
def m__law_pot : Fm := mir 3 2 g__law_pot
theorem o__law_pot (v : Ev K mg base) : ∃ fd, FunD K "_law_pot" "_law_pot" (defArgs (top 23)) (defBody (top 23)) (defScope (top 23)) [] [] (He.ga K "_law_pot") fd ∧ TS.FnOk P w K mg base (L2.CX P w) 1 (He.ga K "_law_pot") fd ["_law_script", "_law_k"] (spD (MM K) m__law_pot) := by
  obtain ⟨fd, F⟩ := v.c.def_ 28 (d := d__law_pot) rfl
  exact ⟨fd, F, funD_mir (M := MM K) F S__law_pot (by decide) (fun cdv A outer s H E hr tk hp => b__law_pot v cdv A outer s H E hr tk hp)⟩
theorem f__law_pot (v : Ev K mg base) : TS.FnR P w K mg base (L2.CX P w) 1 (He.ga K "_law_pot") (spD (MM K) m__law_pot) := by
  obtain ⟨fd, F, O⟩ := o__law_pot (P := P) (w := w) v
  exact fnR_raw (M := MM K) O (F.bindsN (ps := ["_law_script", "_law_k"]) fun _ _ _ _ _ _ us hl => match us, hl with | [_, _], _ => rfl)
/-! law -/
abbrev g_law_1 : FS := (sRet (fCal gAll (aOne (frz (fLc (stName 1) [1] (itRg1 (frz (fCal gMax (aCons (kD (.int 1)) (aCons (frz (fCal gMin (aCons (kD (.int 8)) (aCons (frz (fCal gLen (aOne (vP 0)))) aNil)))) aNil))))) tTrue (frz (fOwnT m__law_right (fOwn m__law_pot (aCons (vI 0) (aCons (vI 1) aNil))))))))))
def g_law : FS := g_law_1
theorem S_law : FnScope ["_law_script", "_law_k"] ["_law_script"] (defScope (top 37)) := ⟨rfl, rfl, rfl, by decide +kernel, rfl, by decide +kernel, by decide +kernel⟩
theorem kp_law (v : Ev K mg base) : PySem.W.keepIn K (.ref (He.ga K "law")) = true := (v.c.def_ 29 (d := d_law) rfl).elim fun _ F => F.kp
theorem b_law (v : Ev K mg base) (cdv : Value) (A : Around) (outer : List Env) (s : Shared) (H : Hp) (E : XK) (hr : TS.Room 10 (A.deeper (PyProof.Rows.envOfC "law" (defScope (top 37)) s.heap.objs.size (He.ga K "law") cdv))) (tk : Takes (cxOf (L2.CX P w) P w K mg base ["_law_script", "_law_k"] "law" (defScope (top 37)) (He.ga K "law") cdv A outer s H E) (fun cls d _ H => E cls d H))
    (hp : PassesOwn (model P w) (A.deeper (PyProof.Rows.envOfC "law" (defScope (top 37)) s.heap.objs.size (He.ga K "law") cdv)) (PyProof.Rows.envOfC "law" (defScope (top 37)) s.heap.objs.size (He.ga K "law") cdv) (cxOf (L2.CX P w) P w K mg base ["_law_script", "_law_k"] "law" (defScope (top 37)) (He.ga K "law") cdv A outer s H E).xe) : DSs (MM K) (fun cls d _ H => E cls d H) (cxOf (L2.CX P w) P w K mg base ["_law_script", "_law_k"] "law" (defScope (top 37)) (He.ga K "law") cdv A outer s H E) (defBody (top 37)) g_law :=
  (dss_one (ds_ret (b_all (by rfl) (by rfl) (u_all v) (db_one (DE.pk (de_lc (own := [("_law_k", 1)]) (by rfl) (by rfl) S_law.nd (dit_rg1 (by rfl) (u_range v) (DE.frz (b_max (by rfl) (by rfl) (u_max v) (DA.b (da_cons di_int (da_cons (DE.frz (b_min (by rfl) (by rfl) (u_min v) (DA.b (da_cons di_int (da_cons (DE.frz (b_len (by rfl) (u_len v) (db_one (dp_var (pv 0))))) da_nil))))) da_nil)))))) (blkOk_by (by kernel_rfl)) (st_name 1) (fun _ _ _ _ _ => pg_name S_law.nd (by rfl) (by first | exact Or.inl rfl | exact Or.inr rfl)) (fun _ _ _ _ _ => pts_no) (fun _ _ _ _ _ => (DE.frz (d_ownT (fun h => pe_own ((f__law_right v).mono (by decide)) hr TS.takes0 (by rfl) (u__law_right v) (kp__law_right v) h) (d_own (fun h => pe_own ((f__law_pot v).mono (by decide)) hr TS.takes0 (by rfl) (u__law_pot v) (kp__law_pot v) h) (da_cons (di_var (pv 0)) (da_cons (di_var (pv 1)) da_nil))))))))))))
def m_law : Fm := mir 2 1 g_law
theorem o_law (v : Ev K mg base) : ∃ fd, FunD K "law" "law" (defArgs (top 37)) (defBody (top 37)) (defScope (top 37)) [] [] (He.ga K "law") fd ∧ TS.FnOk P w K mg base (L2.CX P w) 11 (He.ga K "law") fd ["_law_script"] (spD (MM K) m_law) := by
  obtain ⟨fd, F⟩ := v.c.def_ 29 (d := d_law) rfl
  exact ⟨fd, F, funD_mir (M := MM K) F S_law (by decide) (fun cdv A outer s H E hr tk hp => b_law v cdv A outer s H E hr tk hp)⟩
theorem f_law (v : Ev K mg base) : TS.FnR P w K mg base (L2.CX P w) 11 (He.ga K "law") (spD (MM K) m_law) := by
  obtain ⟨fd, F, O⟩ := o_law (P := P) (w := w) v
  exact fnR_raw (M := MM K) O (F.bindsN (ps := ["_law_script"]) fun _ _ _ _ _ _ us hl => match us, hl with | [_], _ => rfl)
end
end K12

set_option maxHeartbeats 2000000
namespace K12
open PySem L2 TS
noncomputable section
-- needs: 
def Pot (o : OB) : Prop := ∃ a b : Int, o = .l [.int a, .int b] ∧ 0 ≤ a ∧ 0 ≤ b ∧ b < 4294967296
theorem draw_ok {o : OB} (h : Pot o) {m : Int} (h0 : 0 < m) (h1 : m < 1000000000) : ∃ r o', m__law_draw (some o) [.int m] = .ok (.imm (.int r)) (some o') ∧ Pot o' ∧ 0 ≤ r ∧ r < m := by
  obtain ⟨a, b, rfl, ha, hb, hb2⟩ := h
  have hm : m.natAbs < 2 ^ 255 := by omega
  by_cases hp : 0 < a
  · refine ⟨a % m, .l [.int (a / m), .int b], ?_, ⟨_, _, rfl, Int.ediv_nonneg ha (by omega), hb, hb2⟩, Int.emod_nonneg _ (by omega), Int.emod_lt_of_pos _ h0⟩
    simp [m__law_draw, mir, ini, ioS, ioN, outR, ioOut, g__law_draw, atI, ixN, hp, gDivmod_i h0 hm, setOB]
  · have hb' : (b * 48271 + 20011) % 2147483629 < 2147483629 := Int.emod_lt_of_pos _ (by decide)
    have hb0 : 0 ≤ (b * 48271 + 20011) % 2147483629 := Int.emod_nonneg _ (by decide)
    have e1 : gMul (.int b) (.int 48271) = some (.imm (.int (b * 48271))) := gMul_i (by omega) (by decide)
    have e2 : gMul (.int ((b * 48271 + 20011) % 2147483629)) (.int ((b * 48271 + 20011) % 2147483629)) = some (.imm (.int ((b * 48271 + 20011) % 2147483629 * ((b * 48271 + 20011) % 2147483629)))) := gMul_i (by omega) (by omega)
    have e3 : ∀ i : Int, gMod (.int i) (.int 2147483629) = some (.imm (.int (i % 2147483629))) := fun i => gMod_i (by decide)
    have e4 : ∀ i : Int, gMod (.int i) (.int 2147483587) = some (.imm (.int (i % 2147483587))) := fun i => gMod_i (by decide)
    have e5 : ∀ i : Int, gFdiv (.int i) (.int 11) = some (.imm (.int (i / 11))) := fun i => gFdiv_i (by decide) (by decide)
    have e6 : ∀ i : Int, gMod (.int i) (.int m) = some (.imm (.int (i % m))) := fun i => gMod_i h0
    refine ⟨(((b * 48271 + 20011) % 2147483629 * ((b * 48271 + 20011) % 2147483629)) % 2147483587 / 11) % m, .l [.int a, .int ((b * 48271 + 20011) % 2147483629)], ?_, ⟨_, _, rfl, ha, hb0, by omega⟩, Int.emod_nonneg _ (by omega), Int.emod_lt_of_pos _ h0⟩
    simp [m__law_draw, mir, ini, ioS, ioN, outR, ioOut, g__law_draw, atI, ixN, hp, setOB, e1, e2, e3, e4, e5, e6]

end
end K12

set_option maxHeartbeats 2000000
namespace K12
open PySem L2 TS
noncomputable section
-- needs: draw
theorem great_ok {o : OB} (h : Pot o) : ∃ r o', m__law_great (some o) [] = .ok (.imm (.int r)) (some o') ∧ Pot o' ∧ -1000000000000000000000 < r ∧ r < 1000000000000000000000 := by
  obtain ⟨r1, o1, e1, p1, a1, b1⟩ := draw_ok h (m := 10000000) (by decide) (by decide)
  obtain ⟨r2, o2, e2, p2, a2, b2⟩ := draw_ok p1 (m := 10000000) (by decide) (by decide)
  obtain ⟨r3, o3, e3, p3, a3, b3⟩ := draw_ok p2 (m := 10000000) (by decide) (by decide)
  obtain ⟨r4, o4, e4, p4, a4, b4⟩ := draw_ok p3 (m := 2) (by decide) (by decide)
  have q7 : gPow (.int 10) (.int 7) = some (.imm (.int 10000000)) := pow_7
  have q14 : gPow (.int 10) (.int 14) = some (.imm (.int 100000000000000)) := pow_14
  have g1 : gMul (.int r1) (.int 100000000000000) = some (.imm (.int (r1 * 100000000000000))) := gMul_i (by omega) (by decide)
  have g2 : gMul (.int r2) (.int 10000000) = some (.imm (.int (r2 * 10000000))) := gMul_i (by omega) (by decide)
  rcases (show r4 = 0 ∨ r4 = 1 by omega) with z | z
  · refine ⟨r1 * 100000000000000 + r2 * 10000000 + r3, o4, ?_, p4, by omega, by omega⟩
    simp [m__law_great, mir, ini, ioS, ioN, outR, ioOut, g__law_great, q7, q14, e1, e2, e3, e4, g1, g2, z, atI, ixN]
  · refine ⟨0 - (r1 * 100000000000000 + r2 * 10000000 + r3), o4, ?_, p4, by omega, by omega⟩
    simp [m__law_great, mir, ini, ioS, ioN, outR, ioOut, g__law_great, q7, q14, e1, e2, e3, e4, g1, g2, z, atI, ixN]

end
end K12

set_option maxHeartbeats 2000000
namespace K12
open PySem L2 TS
noncomputable section
-- needs: great
theorem place_ok {o : OB} (h : Pot o) : ∃ r o', m__law_place (some o) [] = .ok (.imm (.int r)) (some o') ∧ Pot o' ∧ r.natAbs < 10000000000000000000000000000000000000000000000000000000000000000 := by
  obtain ⟨w, o1, e1, p1, a1, b1⟩ := draw_ok h (m := 4) (by decide) (by decide)
  rcases (show w = 0 ∨ w = 1 ∨ w = 2 ∨ w = 3 by omega) with z | z | z | z
  · obtain ⟨r2, o2, e2, p2, a2, b2⟩ := draw_ok p1 (m := 41) (by decide) (by decide)
    obtain ⟨r3, o3, e3, p3, a3, b3⟩ := draw_ok p2 (m := 2001) (by decide) (by decide)
    refine ⟨r2 - 20, o3, ?_, p3, by omega⟩
    simp [m__law_place, mir, ini, ioS, ioN, outR, ioOut, g__law_place, e1, e2, e3, z, atI, ixN]
  · obtain ⟨r2, o2, e2, p2, a2, b2⟩ := draw_ok p1 (m := 41) (by decide) (by decide)
    obtain ⟨r3, o3, e3, p3, a3, b3⟩ := draw_ok p2 (m := 2001) (by decide) (by decide)
    refine ⟨r3 - 1000, o3, ?_, p3, by omega⟩
    simp [m__law_place, mir, ini, ioS, ioN, outR, ioOut, g__law_place, e1, e2, e3, z, atI, ixN]
  · obtain ⟨r2, o2, e2, p2, a2, b2⟩ := great_ok p1
    refine ⟨r2, o2, ?_, p2, by omega⟩
    simp [m__law_place, mir, ini, ioS, ioN, outR, ioOut, g__law_place, e1, e2, z]
  · obtain ⟨r2, o2, e2, p2, a2, b2⟩ := great_ok p1
    obtain ⟨r3, o3, e3, p3, a3, b3⟩ := great_ok p2
    obtain ⟨r4, o4, e4, p4, a4, b4⟩ := great_ok p3
    have g1 : gMul (.int r2) (.int 1000000000000000000000000000000000000000000) = some (.imm (.int (r2 * 1000000000000000000000000000000000000000000))) := gMul_i (by omega) (by decide)
    have g2 : gMul (.int r3) (.int 1000000000000000000000) = some (.imm (.int (r3 * 1000000000000000000000))) := gMul_i (by omega) (by decide)
    refine ⟨r2 * 1000000000000000000000000000000000000000000 + r3 * 1000000000000000000000 + r4, o4, ?_, p4, by omega⟩
    simp [m__law_place, mir, ini, ioS, ioN, outR, ioOut, g__law_place, e1, e2, e3, e4, z, pow_42, pow_21, g1, g2]

end
end K12

set_option maxHeartbeats 2000000
namespace K12
open PySem L2 TS
noncomputable section
-- needs: draw
abbrev shB : FS := sExpr (toE (fMut 4 mAppend (aCons (fMut 3 mPop (aCons (frz (fOwnIo m__law_draw 0 (aCons (frz (fCal gLen (aOne (vP 3)))) aNil))) aNil)) aNil)))
theorem shuf_turn {o : OB} (hp : Pot o) {left mixed : List Int} (h0 : 0 < left.length) (hl : left.length ≤ 1000) (hm : mixed.length ≤ 1000) {x y : Option TS.R} :
    ∃ o1 n, ∃ hn : n < left.length, Pot o1 ∧ shB [some (.brw o), x, y, some (.own (.l (iL left))), some (.own (.l (iL mixed)))] = .nx [some (.brw o1), x, y, some (.own (.l (iL (left.eraseIdx n)))), some (.own (.l (iL (mixed ++ [left[n]]))))] := by
  obtain ⟨r, o1, e1, p1, a1, b1⟩ := draw_ok hp (m := (left.length : Int)) (by omega) (by omega)
  obtain ⟨n, rfl⟩ : ∃ n : Nat, r = n := ⟨r.toNat, by omega⟩
  have hn : n < left.length := by omega
  refine ⟨o1, n, hn, p1, ?_⟩
  have e3 : mPop (iL left) [.int (n : Int)] = some (.int left[n], iL (left.eraseIdx n)) := by
    have c : gd (0 ≤ (n : Int) ∧ (n : Int) < ((iL left).length : Int) ∧ (n : Int) < 9223372036854775808) = true := gd_true ⟨by omega, by simp [iL]; exact hn, by omega⟩
    have g : (iL left)[((n : Int)).toNat]? = some (.int left[n]) := by simp [iL, hn]
    have er : (iL left).eraseIdx ((n : Int)).toNat = iL (left.eraseIdx n) := by simp [iL, erase_map]
    simp only [mPop, c, if_true, g, er, Option.map_some]
  have e4 : ∀ d : Int, mAppend (iL mixed) [.int d] = some (.non, iL (mixed ++ [d])) := fun d => mAppend_int (by omega) d
  simp [e1, e3, e4]
theorem shuf_for {x : Option TS.R} : ∀ (k i : Nat) (o : OB) (left mixed : List Int) (y : Option TS.R), left.length = k → mixed.length + k ≤ 1000 → Pot o →
    ∃ o' mixed' y', forL (tName 2) shB (iL (nats i k)) [some (.brw o), x, y, some (.own (.l (iL left))), some (.own (.l (iL mixed)))] = .nx [some (.brw o'), x, y', some (.own (.l [])), some (.own (.l (iL mixed')))] ∧ Pot o' ∧ mixed'.Perm (mixed ++ left) := by
  intro k
  induction k with
  | zero =>
    intro i o left mixed y hl hm hp
    obtain rfl : left = [] := List.eq_nil_of_length_eq_zero hl
    exact ⟨o, mixed, y, by simp [nats, forL, iL], hp, by simp⟩
  | succ k ih =>
    intro i o left mixed y hl hm hp
    obtain ⟨o1, n, hn, p1, e1⟩ := shuf_turn hp (left := left) (mixed := mixed) (by omega) (by omega) (by omega) (x := x) (y := some (.imm (.int (i : Int))))
    have hlen : (left.eraseIdx n).length = k := by rw [List.length_eraseIdx_of_lt hn]; omega
    obtain ⟨o', mixed', y', e5, p5, q5⟩ := ih (i + 1) o1 (left.eraseIdx n) (mixed ++ [left[n]]) (some (.imm (.int (i : Int)))) hlen (by simp; omega) p1
    refine ⟨o', mixed', y', ?_, p5, ?_⟩
    · rw [nats_succ]
      simp only [forL, ap_tNameI, SR.bind_nx, List.set_cons_succ, List.set_cons_zero, e1]
      exact e5
    · refine q5.trans ?_
      rw [List.append_assoc]
      exact List.Perm.append_left _ (by simpa using (erase_perm left n hn))
theorem shuffled_ok {o : OB} (h : Pot o) {xs : List Int} (hx : xs.length ≤ 1000) : ∃ ys o', m__law_shuffled (some o) [.lst (iL xs)] = .ok (.own (.l (iL ys))) (some o') ∧ Pot o' ∧ ys.Perm xs := by
  obtain ⟨o', ys, y', e, p, q⟩ := shuf_for (x := some (.imm (.lst (iL xs)))) xs.length 0 o xs [] none rfl (by simpa using hx) h
  refine ⟨ys, o', ?_, p, by simpa using q⟩
  have e2 : gList [.lst (iL xs)] = some (.own (.l (iL xs))) := rfl
  have e3 : iL [] = [] := rfl
  rw [e3] at e
  have f2 : itRg1 (frz (fCal gLen (aOne (vP 1)))) [some (.brw o), some (.imm (.lst (iL xs))), none, some (.own (.l (iL xs))), some (.own (.l []))] = .ok (iL (nats 0 xs.length)) [some (.brw o), some (.imm (.lst (iL xs))), none, some (.own (.l (iL xs))), some (.own (.l []))] := itRg1_ok (by omega) (by simp)
  simp [m__law_shuffled, mir, ini, ioS, ioN, outR, ioOut, g__law_shuffled, e2, f2, e]

end
end K12

set_option maxHeartbeats 2000000
namespace K12
open PySem L2 TS
noncomputable section
-- needs: great shuf2
/-- what the table's loop has found so far -/
def Rt (goals : List Int) (n : Int) (found : List Int) : Prop := ∀ j : Nat, j < found.length → ∃ g t : Int, goals[j]? = some g ∧ -1000000000000000000000 < t ∧ t < 1000000000000000000000 ∧ found[j]? = some (g - j + n * t)
theorem table_turn {o : OB} (h : Pot o) {n w : Int} (hn : 0 < n ∧ n ≤ 60) (hw : 0 ≤ w ∧ w ≤ 2) {goals found : List Int} {i : Nat} (hi : i < goals.length) (hf : found.length = i) (hl : i < 1000) {s4 s6 : Option TS.R} (h4 : s4 = some (.own (.l (iL goals))) ∨ s4 = some (.imm (.lst (iL goals)))) :
    ∃ o' t s6', -1000000000000000000000 < t ∧ t < 1000000000000000000000 ∧ Pot o' ∧ g__law_table_2B [some (.brw o), some (.imm (.int n)), some (.imm (.int w)), some (.imm (.int (i : Int))), s4, some (.own (.l (iL found))), s6] =
      .nx [some (.brw o'), some (.imm (.int n)), some (.imm (.int w)), some (.imm (.int (i : Int))), some (.imm (.lst (iL goals))), some (.own (.l (iL (found ++ [goals[i] - i + n * t])))), s6'] := by
  obtain ⟨r1, o1, e1, p1, a1, b1⟩ := draw_ok h (m := 5) (by decide) (by decide)
  obtain ⟨r2, o2, e2, p2, a2, b2⟩ := draw_ok p1 (m := 3) (by decide) (by decide)
  obtain ⟨r3, o3, e3, p3, a3, b3⟩ := great_ok p2
  have eI : ∀ b : Bool, gInt [.bl b] = some (.imm (.int (if b then 1 else 0))) := fun b => rfl
  have mt : ∀ t : Int, -1000000000000000000000 < t → t < 1000000000000000000000 → gMul (.int n) (.int t) = some (.imm (.int (n * t))) := fun t h1 h2 => gMul_i (by omega) (by omega)
  have nb : ∀ t : Int, -1000000000000000000000 < t → t < 1000000000000000000000 → (n * t).natAbs < 2 ^ 255 := fun t h1 h2 => by
    have b1 : n * t ≤ n * 1000000000000000000000 := Int.mul_le_mul_of_nonneg_left (by omega) (by omega)
    have b2 : n * (-1000000000000000000000) ≤ n * t := Int.mul_le_mul_of_nonneg_left (by omega) (by omega)
    omega
  have m1 : ∀ t : Int, -1000000000000000000000 < t → t < 1000000000000000000000 → gMul (.int (n * t)) (.int 1) = some (.imm (.int (n * t * 1))) := fun t h1 h2 => gMul_i (nb t h1 h2) (by decide)
  have m0 : ∀ t : Int, -1000000000000000000000 < t → t < 1000000000000000000000 → gMul (.int (n * t)) (.int 0) = some (.imm (.int (n * t * 0))) := fun t h1 h2 => gMul_i (nb t h1 h2) (by decide)
  have ix := gIx_ints hi
  have ap : ∀ d : Int, mAppend (iL found) [.int d] = some (.non, iL (found ++ [d])) := fun d => mAppend_int (by omega) d
  rcases (show w = 0 ∨ w = 1 ∨ w = 2 by omega) with z | z | z
  · subst z
    have e := mt (r1 - 2) (by omega) (by omega)
    have f := m0 (r1 - 2) (by omega) (by omega)
    rw [Int.mul_zero] at f
    refine ⟨o1, 0, some (.imm (.int (r1 - 2))), by omega, by omega, p1, ?_⟩
    rcases h4 with rfl | rfl <;> simp [e1, eI, e, f, ix, ap, -gIx_l]
  · subst z
    have e := mt (r1 - 2) (by omega) (by omega)
    have f := m1 (r1 - 2) (by omega) (by omega)
    rw [Int.mul_one] at f
    refine ⟨o1, r1 - 2, some (.imm (.int (r1 - 2))), by omega, by omega, p1, ?_⟩
    rcases h4 with rfl | rfl <;> simp [e1, eI, e, f, ix, ap, -gIx_l]
  · subst z
    by_cases hz : r2 = 0
    · have e := mt r3 a3 b3
      have f := m1 r3 a3 b3
      rw [Int.mul_one] at f
      refine ⟨o3, r3, some (.imm (.int r3)), a3, b3, p3, ?_⟩
      rcases h4 with rfl | rfl <;> simp [e1, e2, e3, eI, e, f, ix, ap, hz, -gIx_l]
    · have e := mt (r1 - 2) (by omega) (by omega)
      have f := m1 (r1 - 2) (by omega) (by omega)
      rw [Int.mul_one] at f
      refine ⟨o2, r1 - 2, some (.imm (.int (r1 - 2))), by omega, by omega, p2, ?_⟩
      rcases h4 with rfl | rfl <;> simp [e1, e2, eI, e, f, ix, ap, hz, -gIx_l]
theorem table_loop {n w : Int} (hn : 0 < n ∧ n ≤ 60) (hw : 0 ≤ w ∧ w ≤ 2) {goals : List Int} : ∀ (k i : Nat) (o : OB) (found : List Int) (s3 s4 s6 : Option TS.R), Pot o → i + k = goals.length → goals.length ≤ 60 → found.length = i → Rt goals n found → (s4 = some (.own (.l (iL goals))) ∨ s4 = some (.imm (.lst (iL goals)))) →
    ∃ o' found' s3' s4' s6', Pot o' ∧ found'.length = goals.length ∧ Rt goals n found' ∧ forL (tName 3) g__law_table_2B (iL (nats i k)) [some (.brw o), some (.imm (.int n)), some (.imm (.int w)), s3, s4, some (.own (.l (iL found))), s6] =
      .nx [some (.brw o'), some (.imm (.int n)), some (.imm (.int w)), s3', s4', some (.own (.l (iL found'))), s6'] := by
  intro k
  induction k with
  | zero =>
    intro i o found s3 s4 s6 hp hi hg hf hr h4
    exact ⟨o, found, s3, s4, s6, hp, by omega, hr, by simp [nats, forL, iL]⟩
  | succ k ih =>
    intro i o found s3 s4 s6 hp hi hg hf hr h4
    have hil : i < goals.length := by omega
    obtain ⟨o1, t, s6', t1, t2, p1, e1⟩ := table_turn hp hn hw hil hf (by omega) (s6 := s6) h4
    have hr' : Rt goals n (found ++ [goals[i] - i + n * t]) := by
      intro j hj
      by_cases h : j < found.length
      · obtain ⟨g, u, h1, h2, h3, h5⟩ := hr j h
        exact ⟨g, u, h1, h2, h3, by rw [List.getElem?_append_left h]; exact h5⟩
      · have : j = i := by simp at hj; omega
        subst this
        exact ⟨goals[j], t, List.getElem?_eq_getElem hil, t1, t2, by rw [List.getElem?_append_right (by omega)]; simp [hf]⟩
    obtain ⟨o', found', a3, a4, a6, q1, q2, q3, q4⟩ := ih (i + 1) o1 (found ++ [goals[i] - i + n * t]) (some (.imm (.int (i : Int)))) (some (.imm (.lst (iL goals)))) s6' p1 (by omega) hg (by simp; omega) hr' (.inr rfl)
    refine ⟨o', found', a3, a4, a6, q1, q2, q3, ?_⟩
    rw [nats_succ]
    simp only [forL, ap_tNameI, SR.bind_nx, List.set_cons_succ, List.set_cons_zero, e1]
    exact q4
theorem table_ok {o : OB} (h : Pot o) {n w : Int} (hn : 0 < n ∧ n ≤ 60) (hw : 0 ≤ w ∧ w ≤ 2) : ∃ goals t o', m__law_table (some o) [.int n, .int w] = .ok (.own (.l (iL t))) (some o') ∧ Pot o' ∧ goals.Perm (nats 0 n.toNat) ∧ t.length = n.toNat ∧ Rt goals n t := by
  obtain ⟨k, rfl⟩ : ∃ k : Nat, n = k := ⟨n.toNat, by omega⟩
  have hlen := nats_len 0 k
  obtain ⟨goals, o1, e1, p1, q1⟩ := shuffled_ok h (xs := nats 0 k) (by omega)
  have hg : goals.length = k := by rw [q1.length_eq, hlen]
  obtain ⟨o', t, a3, a4, a6, p2, l2, r2, e2⟩ := table_loop hn hw (goals := goals) k 0 o1 [] none (some (.own (.l (iL goals)))) none p1 (by omega) (by omega) rfl (fun j hj => absurd hj (by simp)) (.inl rfl)
  refine ⟨goals, t, o', ?_, p2, by simpa using q1, by simp; omega, r2⟩
  have f1 : ∀ δ : Sl, δ[1]? = some (some (.imm (.int (k : Int)))) → fLRg1 (vI 1) δ = .ok (.own (.l (iL (nats 0 k)))) δ := fun δ hd => fLRg1_ok (by omega) (by simp [hd])
  have f2 : ∀ δ : Sl, δ[1]? = some (some (.imm (.int (k : Int)))) → itRg1 (vI 1) δ = .ok (iL (nats 0 k)) δ := fun δ hd => itRg1_ok (by omega) (by simp [hd])
  have e3 : iL [] = [] := rfl
  rw [e3] at e2
  have s1 : g__law_table_1 [some (.brw o), some (.imm (.int (k : Int))), some (.imm (.int w)), none, none, none, none] = .nx [some (.brw o1), some (.imm (.int (k : Int))), some (.imm (.int w)), none, some (.own (.l (iL goals))), some (.own (.l [])), none] := by
    have q := f1 [some (.brw o), some (.imm (.int (k : Int))), some (.imm (.int w)), none, none, none, none] rfl
    simp [q, e1]
  have s2 : g__law_table_2 [some (.brw o1), some (.imm (.int (k : Int))), some (.imm (.int w)), none, some (.own (.l (iL goals))), some (.own (.l [])), none] = .nx [some (.brw o'), some (.imm (.int (k : Int))), some (.imm (.int w)), a3, a4, some (.own (.l (iL t))), a6] := by
    have q := f2 [some (.brw o1), some (.imm (.int (k : Int))), some (.imm (.int w)), none, some (.own (.l (iL goals))), some (.own (.l [])), none] rfl
    show sFor (itRg1 (vI 1)) (tName 3) g__law_table_2B _ = _
    rw [ap_sFor, q, Res.bindS_ok]
    exact e2
  have s3 : g__law_table [some (.brw o), some (.imm (.int (k : Int))), some (.imm (.int w)), none, none, none, none] = .rt (.own (.l (iL t))) [some (.brw o'), some (.imm (.int (k : Int))), some (.imm (.int w)), a3, a4, none, a6] := by
    unfold g__law_table
    rw [ap_sSeq, s1, SR.bind_nx, ap_sSeq, s2, SR.bind_nx]
    simp
  have s4 : ∀ G : FS, mir 7 3 G (some o) [.int (k : Int), .int w] = outR (some o) (G [some (.brw o), some (.imm (.int (k : Int))), some (.imm (.int w)), none, none, none, none]) := fun G => by simp [mir, ini, ioS, ioN]
  unfold m__law_table
  rw [s4, s3]
  simp [outR, ioOut]

end
end K12

set_option maxHeartbeats 2000000
namespace K12
open PySem L2 TS
noncomputable section
-- needs: table2
theorem table_good {o : OB} (h : Pot o) {n w : Int} (hn : 0 < n ∧ n ≤ 60) (hw : 0 ≤ w ∧ w ≤ 2) : ∃ t o', m__law_table (some o) [.int n, .int w] = .ok (.own (.l (iL t))) (some o') ∧ Pot o' ∧ t.length = n.toNat ∧ Good t ∧ ∀ x ∈ t, -1000000000000000000000000 < x ∧ x < 1000000000000000000000000 := by
  obtain ⟨goals, t, o', e, p, q, l, r⟩ := table_ok h hn hw
  have hgl : goals.length = n.toNat := by rw [q.length_eq, nats_len]
  have hgb : ∀ g ∈ goals, 0 ≤ g ∧ g < n := fun g hg => by
    have := q.mem_iff.mp hg
    simp [nats] at this
    obtain ⟨a, ha, rfl⟩ := this
    omega
  have hgn : goals.Nodup := by
    refine (List.Perm.nodup_iff q).mpr ?_
    rw [nodup_iff]
    intro i j hij hj e
    rw [nats_len] at hj
    simp [nats, hj, show i < n.toNat by omega] at e
    omega
  refine ⟨t, o', e, p, l, good_of_rems (by omega) (by omega) ?_, fun x hx => ?_⟩
  · have : rems t.length 0 t = goals := by
      apply List.ext_getElem?
      intro j
      rw [rems_get]
      by_cases hj : j < t.length
      · obtain ⟨g, u, h1, h2, h3, h5⟩ := r j hj
        rw [h5, h1]
        simp only [Option.map_some, Option.some.injEq, Nat.zero_add]
        obtain ⟨g0, g1⟩ := hgb g (List.mem_of_getElem? h1)
        rw [show ((t.length : Nat) : Int) = n by omega, show (j : Int) + (g - j + n * u) = g + n * u by omega, Int.add_mul_emod_self_left, Int.emod_eq_of_lt g0 g1]
      · rw [List.getElem?_eq_none (by omega), List.getElem?_eq_none (by omega)]; rfl
    rw [this]; exact hgn
  · obtain ⟨j, hj, rfl⟩ := List.getElem_of_mem hx
    obtain ⟨g, u, h1, h2, h3, h5⟩ := r j hj
    rw [List.getElem?_eq_getElem hj] at h5
    have h5 := Option.some.inj h5
    rw [h5]
    obtain ⟨g0, g1⟩ := hgb g (List.mem_of_getElem? h1)
    have b1 : n * u ≤ n * 1000000000000000000000 := Int.mul_le_mul_of_nonneg_left (by omega) (by omega)
    have b2 : n * (-1000000000000000000000) ≤ n * u := Int.mul_le_mul_of_nonneg_left (by omega) (by omega)
    omega

end
end K12

set_option maxHeartbeats 2000000
namespace K12
open PySem L2 TS
noncomputable section
-- needs: draw
theorem pot_ok (ns : List Int) (k : Nat) (hk : k < 100) : ∃ o, m__law_pot none [.scr (ns.map D.int), .int (k : Int)] = .ok (.own o) none ∧ Pot o := by
  have m23 : gMul (.int 29) (.int (k : Int)) = some (.imm (.int (29 * (k : Int)))) := gMul_i (by decide) (by omega)
  have m79 : gMul (.int 7129) (.int (k : Int)) = some (.imm (.int (7129 * (k : Int)))) := gMul_i (by decide) (by omega)
  have e3 : ∀ i : Int, gMod (.int i) (.int 2147483629) = some (.imm (.int (i % 2147483629))) := fun i => gMod_i (by decide)
  have e4 : ∀ i : Int, gMod (.int i) (.int 2147483563) = some (.imm (.int (i % 2147483563))) := fun i => gMod_i (by decide)
  have e5 : ∀ i : Int, gMul (.int (i % 2147483563)) (.int 44017) = some (.imm (.int (i % 2147483563 * 44017))) := fun i => by
    have h1 := Int.emod_nonneg i (show (2147483563 : Int) ≠ 0 by decide)
    have h2 := Int.emod_lt_of_pos i (show (0 : Int) < 2147483563 by decide)
    exact gMul_i (by omega) (by decide)
  have key : ∀ c : Int, Pot (.l [.int (if c - 1000000000000000000 > 0 then c - 1000000000000000000 else 0), .int ((c % 2147483563 * 44017 + 7129 * (k : Int) + 53) % 2147483629 + 1)]) := fun c => by
    refine ⟨_, _, rfl, by split <;> omega, ?_, ?_⟩
    · have := Int.emod_nonneg (c % 2147483563 * 44017 + 7129 * (k : Int) + 53) (show (2147483629 : Int) ≠ 0 by decide); omega
    · have := Int.emod_lt_of_pos (c % 2147483563 * 44017 + 7129 * (k : Int) + 53) (show (0 : Int) < 2147483629 by decide); omega
  by_cases h : k < ns.length
  · have hx : gIx (.scr (ns.map D.int)) (.int (k : Int)) = some (.imm (.int ns[k])) := by
      show (atI (ns.map D.int) (k : Int)).map R.imm = _
      rw [show ns.map D.int = iL ns from rfl, atI_ints, atI_in h]; rfl
    have hl : ((k : Int) < (ns.length : Int)) := by omega
    refine ⟨_, ?_, key (if ns[k] < 0 then -ns[k] else ns[k])⟩
    simp [m__law_pot, mir, ini, ioS, ioN, outR, ioOut, g__law_pot, m23, m79, e3, e4, e5, hx, h, pow_18]
  · refine ⟨_, ?_, key (29 * (k : Int) + 11)⟩
    simp [m__law_pot, mir, ini, ioS, ioN, outR, ioOut, g__law_pot, m23, m79, e3, e4, e5, h, pow_18]

end
end K12

set_option maxHeartbeats 2000000
namespace K12
open PySem L2 TS
noncomputable section
-- needs: draw
theorem choice_ok {o : OB} (h : Pot o) {xs : List Int} (h0 : 0 < xs.length) (h1 : xs.length < 1000) : ∃ x o', m__law_choice (some o) [.lst (iL xs)] = .ok (.imm (.int x)) (some o') ∧ Pot o' ∧ x ∈ xs := by
  obtain ⟨r, o1, e1, p1, a1, b1⟩ := draw_ok h (m := (xs.length : Int)) (by omega) (by omega)
  obtain ⟨n, rfl⟩ : ∃ n : Nat, r = n := ⟨r.toNat, by omega⟩
  have hn : n < xs.length := by omega
  refine ⟨xs[n], o1, ?_, p1, List.getElem_mem hn⟩
  have ix := gIx_ints hn
  simp [m__law_choice, mir, ini, ioS, ioN, outR, ioOut, g__law_choice, e1, ix, -gIx_l]

end
end K12

set_option maxHeartbeats 2000000
namespace K12
open PySem L2 TS
noncomputable section
-- needs: draw
theorem choice_d {o : OB} (h : Pot o) {ds : List D} (h0 : 0 < ds.length) (h1 : ds.length < 1000) : ∃ d o', m__law_choice (some o) [.lst ds] = .ok (.imm d) (some o') ∧ Pot o' ∧ d ∈ ds := by
  obtain ⟨r, o1, e1, p1, a1, b1⟩ := draw_ok h (m := (ds.length : Int)) (by omega) (by omega)
  obtain ⟨n, rfl⟩ : ∃ n : Nat, r = n := ⟨r.toNat, by omega⟩
  have hn : n < ds.length := by omega
  refine ⟨ds[n], o1, ?_, p1, List.getElem_mem hn⟩
  have ix : gIx (.lst ds) (.int (n : Int)) = some (.imm ds[n]) := by
    show (atI ds (n : Int)).map R.imm = _
    rw [atI_in hn]; rfl
  simp [m__law_choice, mir, ini, ioS, ioN, outR, ioOut, g__law_choice, e1, ix, -gIx_l]

end
end K12

set_option maxHeartbeats 2000000
namespace K12
open PySem L2 TS
noncomputable section
-- needs: 
abbrev ltB : FS := sIf (fAnd (fTst (fBin gEq (frz (fBin gMod (vI 1) (vP 2))) (kD (.int 0)))) (fTst (fBin gEq (frz (fBin gMul (frz (fSl (vI 0) oNone (oSome (vI 2)))) (frz (fBin gFdiv (vI 1) (vP 2))))) (vP 0)))) (sRet (fSl (vI 0) oNone (oSome (vI 2)))) sNil
theorem gSl_to (t : List Int) (p : Nat) : gSl (.lst (iL t)) none (some (p : Int)) = some (.own (.l (iL (t.take p)))) := by
  have e := cut_to t p
  simp only [gSl]
  rw [e]
theorem lt_rep {t : List Int} (ht : t.length ≤ 2520) {p : Nat} (hp : 0 < p) (hl : p ≤ 2520) : gMul (.lst (iL (t.take p))) (.int ((t.length : Int) / p)) = some (.own (.l (iL (repOf p t)))) := by
  have hle : t.length / p ≤ t.length := Nat.div_le_self _ _
  have hc : ((t.length : Int) / p) = ((t.length / p : Nat) : Int) := (Int.natCast_ediv _ _).symm
  have hm : (t.take p).length * (t.length / p) ≤ 16777216 := by
    rw [List.length_take]
    have : min p t.length * (t.length / p) ≤ 2520 * 2520 := Nat.mul_le_mul (by omega) (by omega)
    omega
  rw [hc]
  exact gRep_nat (by omega) hm
abbrev ltd (t : List Int) (p : Nat) : Sl := [some (.imm (.lst (iL t))), some (.imm (.int t.length)), some (.imm (.int p))]
theorem lt_t1 {t : List Int} {p : Nat} (hp : 0 < p) : fTst (fBin gEq (frz (fBin gMod (vI 1) (vP 2))) (kD (.int 0))) (ltd t p) = .ok (decide (t.length % p = 0)) (ltd t p) := by
  have e1 : gMod (.int (t.length : Int)) (.int (p : Int)) = some (.imm (.int ((t.length : Int) % p))) := gMod_i (by omega)
  have hm : decide ((t.length : Int) % p = 0) = decide (t.length % p = 0) := decide_eq_decide.mpr (by omega)
  rw [← hm]
  simp [e1]
theorem lt_t2 {t : List Int} {p : Nat} {gM gF : D → D → Option TS.R} (e2 : gF (.int (t.length : Int)) (.int (p : Int)) = some (.imm (.int ((t.length : Int) / p)))) (e3 : gM (.lst (iL (t.take p))) (.int ((t.length : Int) / p)) = some (.own (.l (iL (repOf p t))))) : fTst (fBin gEq (frz (fBin gM (frz (fSl (vI 0) oNone (oSome (vI 2)))) (frz (fBin gF (vI 1) (vP 2))))) (vP 0)) (ltd t p) = .ok (decide (repOf p t = t)) (ltd t p) := by
  have e4 := gSl_to t p
  simp [e2, e3, e4]
theorem lt_t3 {t : List Int} {p : Nat} : fSl (vI 0) oNone (oSome (vI 2)) (ltd t p) = .ok (.own (.l (iL (t.take p)))) (ltd t p) := by
  have e4 := gSl_to t p
  simp [e4]
theorem lt_turn {t : List Int} (ht : t.length ≤ 2520) {p : Nat} (hp : 0 < p) (hl : p ≤ 2520) :
    ltB (ltd t p) = if isPer t p then .rt (.own (.l (iL (t.take p)))) (ltd t p) else .nx (ltd t p) := by
  have e2 : gFdiv (.int (t.length : Int)) (.int (p : Int)) = some (.imm (.int ((t.length : Int) / p))) := gFdiv_i (by omega) (by omega)
  have q1 := lt_t1 (t := t) hp
  have q2 := lt_t2 e2 (lt_rep ht hp hl)
  have q3 := lt_t3 (t := t) (p := p)
  unfold ltB isPer
  rw [ap_sIf, ap_fAnd, q1, Res.bind_ok]
  cases decide (t.length % p = 0) with
  | false => rfl
  | true =>
    simp only [if_true, Bool.true_and]
    rw [q2, Res.bindS_ok]
    cases decide (repOf p t = t) with
    | false => rfl
    | true => simp only [if_true]; rw [ap_sRet, q3, Res.bindS_ok]
theorem lt_loop {t : List Int} (ht : t.length ≤ 2520) : ∀ (k i : Nat) (s : Option TS.R), 0 < i → i + k ≤ 2520 →
    (∃ s', forL (tName 2) ltB (iL (nats i k)) [some (.imm (.lst (iL t))), some (.imm (.int t.length)), s] = (match (List.range' i k).find? (isPer t) with
      | some p => .rt (.own (.l (iL (t.take p)))) [some (.imm (.lst (iL t))), some (.imm (.int t.length)), s']
      | none => .nx [some (.imm (.lst (iL t))), some (.imm (.int t.length)), s'])) := by
  intro k
  induction k with
  | zero => intro i s _ _; exact ⟨s, by simp [nats, forL, iL]⟩
  | succ k ih =>
    intro i s hi hk
    have e := lt_turn ht hi (by omega)
    rw [nats_succ]
    simp only [forL, ap_tNameI, SR.bind_nx, List.set_cons_succ, List.set_cons_zero, e, List.range'_succ, List.find?_cons]
    cases hp : isPer t i with
    | true => exact ⟨_, rfl⟩
    | false =>
      obtain ⟨s', e2⟩ := ih (i + 1) (some (.imm (.int i))) (by omega) (by omega)
      exact ⟨s', by simp only [Bool.false_eq_true, if_false]; exact e2⟩
theorem least_table_ok {t : List Int} (h : Good t) : ∃ r, (r = .own (.l (iL (least t))) ∨ r = .imm (.lst (iL (least t)))) ∧ m_least_table none [.lst (iL t)] = .ok r none := by
  have h0 := h.pos
  have h1 := h.len
  have f1 : itRg2 (kD (.int 1)) (vI 1) [some (.imm (.lst (iL t))), some (.imm (.int t.length)), none] = .ok (iL (nats 1 (t.length - 1))) [some (.imm (.lst (iL t))), some (.imm (.int t.length)), none] :=
    itRg2_ok (i := 1) (k := t.length) (by omega) (by omega) rfl (by simp)
  obtain ⟨s', e⟩ := lt_loop h1 (t.length - 1) 1 none (by omega) (by omega)
  have hl : ((iL t).length : Int) = t.length := by simp [iL]
  have s4 : ∀ G : FS, mir 3 1 G none [.lst (iL t)] = outR none (G [some (.imm (.lst (iL t))), none, none]) := fun G => by simp [mir, ini, ioS, ioN]
  have s2 : g_least_table_1 [some (.imm (.lst (iL t))), none, none] = .nx [some (.imm (.lst (iL t))), some (.imm (.int t.length)), none] := by simp
  have s3 : g_least_table [some (.imm (.lst (iL t))), none, none] = ((forL (tName 2) ltB (iL (nats 1 (t.length - 1))) [some (.imm (.lst (iL t))), some (.imm (.int t.length)), none])).bind (sRet (vR 0)) := by
    unfold g_least_table
    rw [ap_sSeq, s2, SR.bind_nx, ap_sSeq]
    show (sFor (itRg2 (kD (.int 1)) (vI 1)) (tName 2) ltB _).bind _ = _
    rw [ap_sFor, f1, Res.bindS_ok]
  unfold m_least_table
  rw [s4, s3, e]
  unfold least leastP
  cases q : (List.range' 1 (t.length - 1)).find? (isPer t) with
  | some p => exact ⟨_, .inl rfl, rfl⟩
  | none => exact ⟨_, .inr (by simp), rfl⟩

end
end K12

set_option maxHeartbeats 2000000
namespace K12
open PySem L2 TS
noncomputable section
-- needs: least
theorem lc_filter {i : Nat} {fi : FA} {ft : FT} {fe : FD} {δ δ1 : Sl} {xs : List Int} (P : Int → Bool) (f : Int → Int) (h1 : fi δ = .ok (iL xs) δ1) (hfree : freeS δ1 i = true) (hlen : xs.length ≤ 16777216)
    (ht : ∀ x ∈ xs, ft (δ1.set i (some (.imm (.int x)))) = .ok (P x) (δ1.set i (some (.imm (.int x)))))
    (he : ∀ x ∈ xs, P x = true → fe (δ1.set i (some (.imm (.int x)))) = .ok (.int (f x)) (δ1.set i (some (.imm (.int x))))) : fLc (stName i) [i] fi ft fe δ = .ok (.own (.l (iL ((xs.filter P).map f)))) δ1 := by
  have key : ∀ (ys : List Int) (acc : List D), (∀ y ∈ ys, y ∈ xs) → acc.length + ys.length ≤ 16777216 → lcL (stName i) [i] ft fe (iL ys) acc (δ1.set i none) = .ok (acc ++ iL ((ys.filter P).map f)) (δ1.set i none) := by
    intro ys
    induction ys with
    | nil => intro acc _ _; simp [lcL]
    | cons y ys ih =>
      intro acc hm hl
      have e := ht y (hm y (by simp))
      simp only [iL_cons, lcL, stName, List.set_set, noX, Res.bind_ok, e]
      cases hp : P y with
      | false =>
        simp only [Bool.false_eq_true, if_false]
        show lcL (stName i) [i] ft fe (iL ys) acc ((δ1.set i (some (.imm (.int y)))).set i none) = _
        rw [List.set_set, ih acc (fun z hz => hm z (by simp [hz])) (by simp at hl ⊢; omega)]
        simp [hp]
      | true =>
        have e2 := he y (hm y (by simp)) hp
        simp only [if_true, e2, Res.bind_ok]
        rw [if_pos (by simp at hl; omega)]
        show lcL (stName i) [i] ft fe (iL ys) (acc ++ [.int (f y)]) ((δ1.set i (some (.imm (.int y)))).set i none) = _
        rw [List.set_set, ih (acc ++ [D.int (f y)]) (fun z hz => hm z (by simp [hz])) (by simp at hl ⊢; omega)]
        simp [hp, iL]
  obtain ⟨o, ho⟩ : ∃ o, δ1[i]? = some o := by
    unfold freeS at hfree
    cases q : δ1[i]? with
    | none => rw [q] at hfree; cases hfree
    | some o => exact ⟨o, rfl⟩
  unfold fLc
  rw [h1, Res.bind_ok]
  simp only [List.all_cons, List.all_nil, Bool.and_true, hfree, if_true]
  show ((lcL (stName i) [i] ft fe (iL xs) [] (δ1.set i none)).bind fun acc δ2 => Res.ok (R.own (.l acc)) (restD δ1 [i] δ2)) = _
  rw [key xs [] (fun _ h => h) (by simpa using hlen), Res.bind_ok]
  simp only [List.nil_append, restD, ho, Option.join, List.set_set]
  rw [set_get _ _ _ (by rw [ho]; rfl)]
theorem leastP_first {t : List Int} (h0 : 0 < t.length) : ((List.range' 1 t.length).filter (isPer t)).head? = some (leastP t) := by
  have hl : List.range' 1 t.length = List.range' 1 (t.length - 1) ++ [t.length] := by
    obtain ⟨m, hm⟩ : ∃ m, t.length = m + 1 := ⟨t.length - 1, by omega⟩
    rw [hm, List.range'_concat]
    simp
    omega
  have hp : isPer t t.length = true := (isPer_spec h0 h0).mpr ⟨Nat.dvd_refl _, act_per t⟩
  rw [List.head?_filter, hl, List.find?_append]
  unfold leastP
  cases (List.range' 1 (t.length - 1)).find? (isPer t) with
  | some p => rfl
  | none => simp [hp]

end
end K12

set_option maxHeartbeats 2000000
namespace K12
open PySem L2 TS
noncomputable section
-- needs: 
theorem is_int_int : is_int (.inl "int") = some true := by decide +kernel
theorem is_bool_int : is_bool (.inl "int") = some false := by decide +kernel
theorem is_lt_list : is_list_tuple (.inl "list") = some true := by decide +kernel
@[simp] theorem tag_int (i : Int) : tagD (.int i) = some (.inl "int") := rfl
@[simp] theorem tag_lst (xs : List D) : tagD (.lst xs) = some (.inl "list") := rfl
@[simp] theorem tag_obj (n : Nat) (xs : List D) : tagD (.obj n xs) = some (.inr n) := rfl
theorem is_integer_ok (i : Int) : m_is_integer none [.int i] = .ok (.imm (.bl true)) none := by
  simp [m_is_integer, mir, ini, ioS, ioN, outR, ioOut, g_is_integer, is_int_int, is_bool_int]
theorem require1_ok (i : Int) : m_require_integer_d1 none [.int i] = .ok (.imm .non) none := by
  have e : gNotN .non .non = some (.imm (.bl false)) := rfl
  simp [m_require_integer_d1, fmDfl, m_require_integer, mir, ini, ioS, ioN, outR, ioOut, g_require_integer, is_integer_ok, e]
theorem require2_ok {i j : Int} (h : j ≤ i) : m_require_integer none [.int i, .int j] = .ok (.imm .non) none := by
  have e : gNotN (.int j) .non = some (.imm (.bl true)) := rfl
  have h2 : ¬ i < j := by omega
  simp [m_require_integer, mir, ini, ioS, ioN, outR, ioOut, g_require_integer, is_integer_ok, e, h2]

end
end K12

set_option maxHeartbeats 2000000
namespace K12
open PySem L2 TS
noncomputable section
-- needs: ints
abbrev gcT : FT := fTst (fBin gNe (vI 3) (kD (.int 0)))
abbrev gcB : FS := sPar 2 3 (toE (vI 3)) (fBin gMod (vI 2) (vP 3))
theorem gcd_loop {x y : Option TS.R} : ∀ (k : Nat) (a b fuel : Nat), b ≤ k → k < fuel → whileL gcT gcB fuel [x, y, some (.imm (.int (a : Int))), some (.imm (.int (b : Int)))] = .nx [x, y, some (.imm (.int (Nat.gcd a b : Nat))), some (.imm (.int 0))] := by
  intro k
  induction k with
  | zero =>
    intro a b fuel hb hf
    obtain rfl : b = 0 := by omega
    obtain ⟨f, rfl⟩ : ∃ f, fuel = f + 1 := ⟨fuel - 1, by omega⟩
    simp [whileL]
  | succ k ih =>
    intro a b fuel hb hf
    obtain ⟨f, rfl⟩ : ∃ f, fuel = f + 1 := ⟨fuel - 1, by omega⟩
    by_cases h0 : b = 0
    · subst h0; simp [whileL]
    · have e1 : gMod (.int (a : Int)) (.int (b : Int)) = some (.imm (.int ((a % b : Nat) : Int))) := gMod_i (by omega)
      have hlt : a % b < b := Nat.mod_lt _ (by omega)
      have e2 := ih b (a % b) f (by omega) (by omega)
      have hz : ¬ ((b : Int) = 0) := by omega
      have hg : Nat.gcd b (a % b) = Nat.gcd a b := by rw [Nat.gcd_comm a b, Nat.gcd_rec b a, Nat.gcd_comm]
      rw [hg] at e2
      simp only [whileL]
      simp [h0, e1]
      exact e2
theorem ifabs (a : Int) : (if a < 0 then -a else a) = (a.natAbs : Int) := by split <;> omega
def lcmL (ns : List Nat) : Nat := ns.foldl Nat.lcm 1
theorem foldl_lcm_dvd : ∀ (ns : List Nat) (a : Nat), a ∣ ns.foldl Nat.lcm a ∧ ∀ n ∈ ns, n ∣ ns.foldl Nat.lcm a
  | [], a => ⟨Nat.dvd_refl _, fun _ h => by cases h⟩
  | n :: ns, a => by
    obtain ⟨h1, h2⟩ := foldl_lcm_dvd ns (Nat.lcm a n)
    refine ⟨Nat.dvd_trans (Nat.dvd_lcm_left _ _) h1, fun m hm => ?_⟩
    rcases List.mem_cons.mp hm with rfl | hm
    · exact Nat.dvd_trans (Nat.dvd_lcm_right _ _) h1
    · exact h2 m hm
theorem foldl_lcm_pos : ∀ (ns : List Nat) (a : Nat), 0 < a → (∀ n ∈ ns, 0 < n) → 0 < ns.foldl Nat.lcm a
  | [], a, h, _ => h
  | n :: ns, a, h, hn => foldl_lcm_pos ns _ (Nat.lcm_pos h (hn n (by simp))) fun m hm => hn m (by simp [hm])
def nL (ns : List Nat) : List D := ns.map fun n : Nat => D.int (n : Int)
@[simp] theorem nL_len (ns : List Nat) : (nL ns).length = ns.length := by simp [nL]
theorem nL_app (a b : List Nat) : nL (a ++ b) = nL a ++ nL b := by simp [nL]
theorem mAppend_nat {c : List Nat} (h : c.length < 16777216) (j : Nat) : mAppend (nL c) [.int (j : Int)] = some (.non, nL (c ++ [j])) := by
  simp only [mAppend, nL_len, h, if_true, nL_app]; rfl
abbrev cmA : FS := sExpr (fOwn m_require_integer (aCons (vI 1) (aCons (kD (.int 1)) aNil)))
theorem cm_loop1 {x z : Option TS.R} : ∀ (ns : List Nat) (y : Option TS.R), (∀ n ∈ ns, 0 < n) → ∃ y', forL (tName 1) cmA (nL ns) [x, y, z] = .nx [x, y', z]
  | [], y, _ => ⟨y, rfl⟩
  | n :: ns, y, h => by
    obtain ⟨y', e⟩ := cm_loop1 (x := x) (z := z) ns (some (.imm (.int (n : Int)))) fun m hm => h m (by simp [hm])
    have hn := h n (by simp)
    have r := require2_ok (i := (n : Int)) (j := 1) (by omega)
    refine ⟨y', ?_⟩
    rw [← e]
    simp [nL, forL, r]
theorem lcmL_two (a b : Nat) : lcmL [a, b] = Nat.lcm a b := by simp [lcmL, Nat.lcm_one_left]

end
end K12

set_option maxHeartbeats 2000000
namespace K12
open PySem L2 TS
noncomputable section
-- needs: lcm
theorem moved_ok {t : List Int} (h : 0 < t.length) (x : Int) : m_moved none [.lst (iL t), .int x] = .ok (.imm (.int (mv t x))) none := by
  have e1 : gMod (.int x) (.int (t.length : Int)) = some (.imm (.int (x % t.length))) := gMod_i (by omega)
  have e2 := ix_mod h x
  simp [m_moved, mir, ini, ioS, ioN, outR, ioOut, g_moved, e1, e2, mv, -gIx_l]

end
end K12

set_option maxHeartbeats 2000000
namespace K12
open PySem L2 TS
noncomputable section
-- needs: ints
abbrev tg45 : TS.R → Sl → SR := tTup 2 (tsCons (tName 4) (tsCons (tName 5) tsNil))
abbrev ck1 : FS := g_checked_table_4B
theorem ck1_loop {a b c d g : Option TS.R} : ∀ (t : List Int) (i : Nat) (e f : Option TS.R), ∃ e' f', forL tg45 ck1 (enumD i (iL t)) [a, b, c, d, e, f, g] = .nx [a, b, c, d, e', f', g] := by
  intro t
  induction t with
  | nil => intro i e f; exact ⟨e, f, rfl⟩
  | cons x t ih =>
    intro i e f
    obtain ⟨e', f', h⟩ := ih (i + 1) (some (.imm (.int i))) (some (.imm (.int x)))
    refine ⟨e', f', ?_⟩
    rw [← h]
    simp [iL, enumD, forL, is_integer_ok]
abbrev ck2 : FS := g_checked_table_6B
@[simp] theorem toD_dK (ks : List Key) (ds : List D) : (OB.dK ks ds).toD = .dK ks ds := rfl
theorem look_none {ks : List Key} {ds : List D} {k : Key} (h : k ∉ ks) : lookD ks ds k = none := by
  induction ks generalizing ds with
  | nil => cases ds <;> rfl
  | cons a ks ih =>
    simp only [List.mem_cons, not_or] at h
    cases ds with
    | nil => rfl
    | cons d ds => simp only [lookD, if_neg (Ne.symm h.1)]; exact ih h.2
theorem ck2_turn {a c e f g : Option TS.R} {n : Int} (hn : 0 < n) {i : Nat} {x : Int} (hi : i < 3000) {ks : List Key} {ds : List D} (hk : (.inl (((i : Int) + x) % n) : Key) ∉ ks) (hl : ds.length < 3000) :
    ∃ g', ck2 [a, some (.imm (.int 1)), some (.imm (.int n)), some (.own (.dK ks ds)), some (.imm (.int i)), some (.imm (.int x)), g] = .nx [a, some (.imm (.int 1)), some (.imm (.int n)), some (.own (.dK (ks ++ [.inl (((i : Int) + x) % n)]) (ds ++ [.int i]))), some (.imm (.int i)), some (.imm (.int x)), g'] := by
  refine ⟨some (.imm (.int (((i : Int) + x) % n))), ?_⟩
  have m1 : gMul (.int 1) (.int (i : Int)) = some (.imm (.int (1 * (i : Int)))) := gMul_i (by decide) (by omega)
  have md : ∀ z : Int, gMod (.int z) (.int n) = some (.imm (.int (z % n))) := fun z => gMod_i hn
  have gi : gIn (.int (((i : Int) + x) % n)) (.dK ks ds) = some (.imm (.bl false)) := by
    simp [gIn, TS.keyOf, look_none hk]
  have st : setOB (.dK ks ds) (.int (((i : Int) + x) % n)) (.int (i : Int)) = some (.dK (ks ++ [.inl (((i : Int) + x) % n)]) (ds ++ [.int i])) := by
    have h1 : ds.length < 16777216 := by omega
    have h2 : (ks.any fun k' => decide (k' = (.inl (((i : Int) + x) % n) : Key))) = false := by
      rw [List.any_eq_false]
      intro k hkk
      have : k ≠ .inl (((i : Int) + x) % n) := fun z => hk (z ▸ hkk)
      simp [this]
    simp [setOB, TS.keyOf, h1, putD, h2]
  simp [m1, md, gi, st]
theorem ck2_loop {a : Option TS.R} {n : Int} (hn : 0 < n) : ∀ (t : List Int) (i : Nat) (ks : List Int) (ds : List D) (e f g : Option TS.R), i + t.length ≤ 2520 → ds.length = i → (ks ++ rems n i t).Nodup →
    ∃ o' e' f' g', forL tg45 ck2 (enumD i (iL t)) [a, some (.imm (.int 1)), some (.imm (.int n)), some (.own (.dK (ks.map .inl) ds)), e, f, g] = .nx [a, some (.imm (.int 1)), some (.imm (.int n)), some (.own o'), e', f', g'] := by
  intro t
  induction t with
  | nil => intro i ks ds e f g _ _ _; exact ⟨_, e, f, g, rfl⟩
  | cons x t ih =>
    intro i ks ds e f g hl hd hnd
    have hk : (.inl (((i : Int) + x) % n) : Key) ∉ ks.map Sum.inl := by
      intro z
      obtain ⟨y, hy, ez⟩ := List.mem_map.mp z
      cases ez
      have := (List.nodup_append.mp hnd).2.2 _ hy (((i : Int) + x) % n) (by simp [rems])
      exact this rfl
    simp only [List.length_cons] at hl
    obtain ⟨g', e1⟩ := ck2_turn (a := a) (c := none) (e := none) (f := none) (g := g) hn (i := i) (x := x) (by omega) (ds := ds) hk (by omega)
    have hnd' : ((ks ++ [((i : Int) + x) % n]) ++ rems n (i + 1) t).Nodup := by
      rw [List.append_assoc]; exact hnd
    obtain ⟨o', e', f', g2, h⟩ := ih (i + 1) (ks ++ [((i : Int) + x) % n]) (ds ++ [.int i]) (some (.imm (.int i))) (some (.imm (.int x))) g' (by omega) (by simp; omega) hnd'
    refine ⟨o', e', f', g2, ?_⟩
    rw [← h]
    simp only [iL, List.map_cons, enumD, forL, ap_tTup, List.length_cons, List.length_nil, if_true, ap_tsCons, ap_tNameI, SR.bind_nx, ap_tsNil, List.set_cons_succ, List.set_cons_zero, List.map_append, List.map_nil]
    have es : ck2 [a, some (.imm (.int 1)), some (.imm (.int n)), some (.own (.dK (ks.map .inl) ds)), some (.imm (.int i)), some (.imm (.int x)), g] = _ := e1
    simp only [es]
theorem checked_ok {t : List Int} (h : Good t) : m_checked_table none [.lst (iL t), .int 1] = .ok (.own (.l (iL t))) none := by
  obtain ⟨e1, f1, q1⟩ := ck1_loop (a := some (.imm (.lst (iL t)))) (b := some (.imm (.int 1))) (c := some (.imm (.int t.length))) (d := none) (g := none) t 0 none none
  obtain ⟨o', e2, f2, g2, q2⟩ := ck2_loop (a := some (.imm (.lst (iL t)))) (n := t.length) (by have := h.pos; omega) t 0 [] [] e1 f1 none (by have := h.len; omega) rfl (by simpa using h.rems)
  have h0 := h.pos
  have h1 := h.len
  have n0 : ¬ ((t.length : Int) = 0) := by omega
  have n1 : ¬ ((2520 : Int) < t.length) := by omega
  have gl : gList [.lst (iL t)] = some (.own (.l (iL t))) := rfl
  have hl : ((iL t).length : Int) = t.length := by simp [iL]
  have n2 : t ≠ [] := by intro z; subst z; simp at h0
  have q2' := q2
  simp only [List.map_nil] at q2'
  simp [m_checked_table, mir, ini, ioS, ioN, outR, ioOut, g_checked_table, is_lt_list, n0, n1, n2, gl, q1, q2']

end
end K12

set_option maxHeartbeats 2000000
namespace K12
open PySem L2 TS
noncomputable section
-- needs: 
abbrev srB : FS := sAsg (toE (vI 2)) (tSub 1 (frz (fBin gMod (frz (fBin gAdd (vI 2) (vP 3))) (frz (fCal gLen (aOne (vP 0)))))))
abbrev tg23 : TS.R → Sl → SR := tTup 2 (tsCons (tName 2) (tsCons (tName 3) tsNil))
theorem src_loop {T : List Int} (h0 : 0 < T.length) : ∀ (t : List Int) (i : Nat) (acc : List Int) (s2 s3 : Option TS.R), acc.length = T.length →
    ∃ s2' s3', forL tg23 srB (enumD i (iL t)) [some (.imm (.lst (iL T))), some (.own (.l (iL acc))), s2, s3] = .nx [some (.imm (.lst (iL T))), some (.own (.l (iL (srcL T.length i t acc)))), s2', s3'] := by
  intro t
  induction t with
  | nil => intro i acc s2 s3 _; exact ⟨s2, s3, rfl⟩
  | cons x t ih =>
    intro i acc s2 s3 hl
    obtain ⟨a, b, e⟩ := ih (i + 1) (acc.set (((i : Int) + x) % T.length).toNat i) (some (.imm (.int i))) (some (.imm (.int x))) (by simp [hl])
    refine ⟨a, b, ?_⟩
    rw [srcL, ← e]
    have b1 := Int.emod_nonneg ((i : Int) + x) (show (T.length : Int) ≠ 0 by omega)
    have b2 := Int.emod_lt_of_pos ((i : Int) + x) (show 0 < (T.length : Int) by omega)
    have md : gMod (.int ((i : Int) + x)) (.int (T.length : Int)) = some (.imm (.int (((i : Int) + x) % T.length))) := gMod_i (by omega)
    have st := setOB_int (acc := acc) b1 (by rw [hl]; exact b2) (i : Int)
    have hL : ((iL T).length : Int) = T.length := by simp [iL]
    simp [iL_cons, enumD, forL, md, st]
theorem sources_ok {t : List Int} (h : Good t) : m_sources_of none [.lst (iL t)] = .ok (.own (.l (iL (srcs t)))) none := by
  have h0 := h.pos
  have h1 := h.len
  have c1 : fLc (stName 3) [3] (itSeq (vI 0)) tTrue (kD (.int 0)) [some (.imm (.lst (iL t))), none, none, none] = .ok (.own (.l (iL (List.replicate t.length 0)))) [some (.imm (.lst (iL t))), none, none, none] := by
    have q := lc_ints (xs := t) (fun _ => 0) (i := 3) (fi := itSeq (vI 0)) (fe := kD (.int 0)) (δ := [some (.imm (.lst (iL t))), none, none, none]) (δ1 := [some (.imm (.lst (iL t))), none, none, none]) (by simp) rfl (by omega) (fun x _ => by simp)
    rw [q, List.map_const']
  obtain ⟨a, b, e⟩ := src_loop h0 t 0 (List.replicate t.length 0) none none (by simp)
  simp [m_sources_of, mir, ini, ioS, ioN, outR, ioOut, g_sources_of, c1, e]
  rfl

end
end K12

set_option maxHeartbeats 2000000
namespace K12
open PySem L2 TS
noncomputable section
-- needs: join checked least srcs
def planD (s : List Int) : List D := [.lst (iL s), .lst (iL (srcs s))]
/-- the plan of a table -/
abbrev pl (t : List Int) : D := .obj 0 (planD (least t))
abbrev plO (t : List Int) : OB := .o 0 (planD (least t))
theorem pl_eq {s t : List Int} (hs : Good s) (ht : Good t) (h : act s = act t) : pl s = pl t := by
  unfold pl; rw [least_eq hs.pos ht.pos h]
theorem plO_eq {s t : List Int} (hs : Good s) (ht : Good t) (h : act s = act t) : plO s = plO t := by
  unfold plO; rw [least_eq hs.pos ht.pos h]
theorem init_ok {t : List Int} (h : Good t) : m_Plan___init__ (some (.o 0 [])) [.lst (iL t)] = .ok (.imm .non) (some (plO t)) := by
  obtain ⟨r, hr, e⟩ := least_table_ok h
  have c := checked_ok h
  have sr := sources_ok h.least
  rcases hr with rfl | rfl <;>
  simp [m_Plan___init__, mir, ini, ioS, ioN, outR, ioOut, g_Plan___init__, c, e, sr, ix_own_offsets, ix_own_sources, setF, plO, planD]
theorem at_ok {t : List Int} (h : Good t) (x : Int) : m_Plan_at none [pl t, .int x] = .ok (.imm (.int (mv t x))) none := by
  have e := moved_ok h.least.pos x
  rw [mv_least h] at e
  simp [m_Plan_at, mir, ini, ioS, ioN, outR, ioOut, g_Plan_at, pl, planD, ix_own_offsets, require1_ok, e]
theorem good_shift (n : Int) : Good [n] := ⟨by simp, by simp, fun x y e => by
  have : ∀ z, act [n] z = n := fun z => by
    unfold act
    have : z % (([n] : List Int).length : Int) = 0 := by simp [Int.emod_one]
    rw [this]; rfl
  unfold mv at e
  rw [this, this] at e
  omega⟩
theorem act_shift (n : Int) (z : Int) : act [n] z = n := by
  unfold act
  have : z % (([n] : List Int).length : Int) = 0 := by simp [Int.emod_one]
  rw [this]; rfl

end
end K12

set_option maxHeartbeats 2000000
namespace K12
open PySem L2 TS
noncomputable section
-- needs: plan
theorem ix_at {t : List Int} {k : Int} (h0 : 0 ≤ k) (h1 : k < t.length) : gIx (.lst (iL t)) (.int k) = some (.imm (.int (act t k))) := by
  have e := ix_mod (t := t) (by omega) k
  rw [Int.emod_eq_of_lt h0 h1] at e
  exact e
theorem src_bd {t : List Int} (h : Good t) (x : Int) : 0 ≤ act (srcs t) x ∧ act (srcs t) x < t.length := by
  have b0 := Int.emod_nonneg x (show (t.length : Int) ≠ 0 by have := h.pos; omega)
  have b1 := Int.emod_lt_of_pos x (show 0 < (t.length : Int) by have := h.pos; omega)
  obtain ⟨j, ej⟩ := Int.eq_ofNat_of_zero_le b0
  obtain ⟨k, hk, e1, e2⟩ := src_ex h (j := j) (by omega)
  have e3 : act (srcs t) x = k := by
    rw [← act_mod, srcs_len, ej]
    exact act_get e2
  omega
theorem back_ok {t : List Int} (h : Good t) (x : Int) : m_Plan_back none [pl t, .int x] = .ok (.imm (.int (inv t x))) none := by
  have hs := h.least
  have hp := hs.pos
  have sl := srcs_len (least t)
  have e1 : gMod (.int x) (.int ((srcs (least t)).length : Int)) = some (.imm (.int (x % (srcs (least t)).length))) := gMod_i (by omega)
  have e2 := ix_mod (t := srcs (least t)) (by omega) x
  obtain ⟨b0, b1⟩ := src_bd hs x
  have e3 := ix_at b0 b1
  have e4 : x - act (least t) (act (srcs (least t)) x) = inv t x := by rw [← inv_least h]; rfl
  generalize act (srcs (least t)) x = k at *
  generalize act (least t) k = y at *
  simp [m_Plan_back, mir, ini, ioS, ioN, outR, ioOut, g_Plan_back, require1_ok, planD, ix_own_offsets, ix_own_sources, e1, e2, e3, e4, -gIx_l]
theorem identity_ok : m_Plan_identity none [.cls 0] = .ok (.own (plO [0])) none := by
  have e := init_ok (good_shift 0)
  have e' : m_Plan___init__ (some (.o 0 [])) [.lst [.int 0]] = .ok (.imm .non) (some (.o 0 (planD (least [0])))) := e
  simp [m_Plan_identity, mir, ini, ioS, ioN, outR, ioOut, g_Plan_identity, e']

end
end K12

set_option maxHeartbeats 2000000
namespace K12
open PySem L2 TS
noncomputable section
-- needs: lawleast inverse
theorem source_ok {t : List Int} (h : Good t) (x : Int) : m__law_source none [.lst (iL t), .int x] = .ok (.imm (.int (inv t x))) none := by
  have hp := h.pos
  have hl := h.len
  have hn : (0 : Int) < t.length := by omega
  let P : Int → Bool := fun k => decide ((k + act t k) % (t.length : Int) = x % (t.length : Int))
  have b0 := Int.emod_nonneg x (show (t.length : Int) ≠ 0 by omega)
  have b1 := Int.emod_lt_of_pos x hn
  obtain ⟨j, ej⟩ := Int.eq_ofNat_of_zero_le b0
  obtain ⟨k, hk, ek, es⟩ := src_ex h (j := j) (by omega)
  have ea : act (srcs t) x = (k : Int) := by
    unfold act
    rw [srcs_len, ej, List.getD_eq_getElem?_getD, show ((j : Nat) : Int).toNat = j from rfl]
    rw [es]; rfl
  have fil : ∃ r, (nats 0 t.length).filter P = (k : Int) :: r := by
    have hm : (k : Int) ∈ (nats 0 t.length).filter P := by
      rw [List.mem_filter]
      refine ⟨by rw [nats_eq]; exact List.mem_map.mpr ⟨k, by simpa using hk, rfl⟩, ?_⟩
      show decide _ = true
      rw [ek, ej]; simp
    have hu : ∀ y ∈ (nats 0 t.length).filter P, y = (k : Int) := fun y hy => by
      rw [List.mem_filter] at hy
      obtain ⟨y1, y2⟩ := hy
      rw [nats_eq] at y1
      obtain ⟨i, hi, rfl⟩ := List.mem_map.mp y1
      have y3 := of_decide_eq_true y2
      rw [ej, ← ek] at y3
      have q := rem_inj h (Nat.dvd_refl _) hp 0 i k (by simpa using hi) hk (by unfold mv; rw [Int.sub_zero, Int.sub_zero]; exact y3)
      rw [q]
    cases q : (nats 0 t.length).filter P with
    | nil => rw [q] at hm; cases hm
    | cons y r => exact ⟨r, by rw [hu y (by rw [q]; simp)]⟩
  obtain ⟨r, fil⟩ := fil
  have S2 := lc_filter (i := 4) (fi := itRg1 (vI 2)) (ft := fTst (fBin gEq (frz (fBin gMod (frz (fCal gInt (aOne (frz (fBin gAdd (vI 4) (frz (fBin gIx (vI 0) (vP 4)))))))) (vP 2))) (frz (fBin gMod (frz (fCal gInt (aOne (vP 1)))) (vP 2))))) (fe := vI 4)
    (δ := [some (.imm (.lst (iL t))), some (.imm (.int x)), some (.imm (.int (t.length : Int))), none, none]) (δ1 := [some (.imm (.lst (iL t))), some (.imm (.int x)), some (.imm (.int (t.length : Int))), none, none]) (xs := nats 0 t.length) P id (itRg1_ok (k := t.length) (by omega) (by simp)) rfl (by rw [nats_len]; omega)
    (fun y hy => by
      rw [nats_eq] at hy
      obtain ⟨i, hi, rfl⟩ := List.mem_map.mp hy
      have ix := ix_at (t := t) (k := (i : Int)) (by omega) (by simpa using hi)
      have m1 : gMod (.int ((i : Int) + act t i)) (.int (t.length : Int)) = some (.imm (.int (((i : Int) + act t i) % t.length))) := gMod_i hn
      have m2 : gMod (.int x) (.int (t.length : Int)) = some (.imm (.int (x % t.length))) := gMod_i hn
      simp [ix, m1, m2, P])
    (fun y hy _ => by simp)
  rw [fil, List.map_id] at S2
  have i0 : gIx (.lst (iL ((k : Int) :: r))) (.int 0) = some (.imm (.int (k : Int))) := gIx_ints (n := 0) (by simp)
  have i1 := ix_at (t := t) (k := (k : Int)) (by omega) (by omega)
  have fin : x - act t k = inv t x := by unfold inv; rw [ea]
  generalize iL ((k : Int) :: r) = FL at *
  (unfold m__law_source g__law_source; unfold mir; rw [if_pos (by simp [ioN])]; simp only [ini, ioS, ioN, List.replicate, List.map_cons, List.map_nil, List.length_cons, List.length_nil, List.nil_append, List.cons_append, Nat.zero_add, Nat.reduceAdd, Nat.reduceSub])
  (rw [ap_sSeq]; (conv in (SR.bind _ _) => (arg 1; simp [])); (try rw [SR.bind_nx]))
  rw [ap_sSeq, show g__law_source_2 [some (.imm (.lst (iL t))), some (.imm (.int x)), some (.imm (.int (t.length : Int))), none, none] = .nx [some (.imm (.lst (iL t))), some (.imm (.int x)), some (.imm (.int (t.length : Int))), some (.own (.l FL)), none] from by
    show sAsg (fLc _ _ _ _ _) (tName 3) _ = _
    rw [ap_sAsg, S2]
    rfl, SR.bind_nx]
  simp [outR, ioOut, i0, i1, fin]

end
end K12

set_option maxHeartbeats 2000000
namespace K12
open PySem L2 TS
noncomputable section
-- needs: plan
theorem law_at_ok {t : List Int} (h : 0 < t.length) (x : Int) : m__law_at none [.lst (iL t), .int x] = .ok (.imm (.int (mv t x))) none := by
  have e1 : gMod (.int x) (.int (t.length : Int)) = some (.imm (.int (x % t.length))) := gMod_i (by omega)
  have e2 := ix_mod h x
  simp [m__law_at, mir, ini, ioS, ioN, outR, ioOut, g__law_at, e1, e2, mv, -gIx_l]

end
end K12

set_option maxHeartbeats 2000000
namespace K12
open PySem L2 TS
noncomputable section
-- needs: plan
theorem shift_ok (n : Int) : m_Plan_shift none [.cls 0, .int n] = .ok (.own (plO [n])) none := by
  have e := init_ok (good_shift n)
  have e' : m_Plan___init__ (some (.o 0 [])) [.lst [.int n]] = .ok (.imm .non) (some (.o 0 (planD (least [n])))) := e
  simp [m_Plan_shift, mir, ini, ioS, ioN, outR, ioOut, g_Plan_shift, require1_ok, e', plO]

end
end K12

set_option maxHeartbeats 2000000
namespace K12
open PySem L2 TS
noncomputable section
-- needs: place2 tgood2 pot choice choiced lawsource lawat shift
def sizes : List Int := [1, 2, 3, 4, 5, 6, 7, 8, 9, 10, 11, 12, 60]
theorem sizes_ok : ∀ r ∈ sizes, 0 < r ∧ r ≤ 60 := by decide
def odds : List D := [.non, .bl true, .bl false, .str "", .str "0", .tup [.int 0], .lst [.int 1], .dK [] [], .tup [], .str "x"]
theorem odds_ok : ∀ d ∈ odds, m_is_integer none [d] = .ok (.imm (.bl false)) none ∧ ∃ X, gReprD (.lst [.str "value", d]) = some X ∧ PyData.strOk X = true := by
  intro d hd
  have key : ∀ {d : D} {p : PyData}, toPd (.lst [.str "value", d]) = some p → (p.showable && (decide (p.depth ≤ 32) && (decide (p.shown.length ≤ 16777216) && PyData.strOk p.shown))) = true → ∃ X, gReprD (.lst [.str "value", d]) = some X ∧ PyData.strOk X = true := fun e h => by
    obtain ⟨x, h1, _, _, h2⟩ := reprD_of e h
    exact ⟨x, h1, h2⟩
  unfold odds at hd
  simp only [List.mem_cons, List.not_mem_nil, or_false] at hd
  rcases hd with rfl | rfl | rfl | rfl | rfl | rfl | rfl | rfl | rfl | rfl
  · exact ⟨rfl, key rfl (by decide +kernel)⟩
  · exact ⟨rfl, key rfl (by decide +kernel)⟩
  · exact ⟨rfl, key rfl (by decide +kernel)⟩
  · exact ⟨rfl, key rfl (by decide +kernel)⟩
  · exact ⟨rfl, key rfl (by decide +kernel)⟩
  · exact ⟨rfl, key rfl (by decide +kernel)⟩
  · exact ⟨rfl, key rfl (by decide +kernel)⟩
  · exact ⟨rfl, key rfl (by decide +kernel)⟩
  · exact ⟨rfl, key rfl (by decide +kernel)⟩
  · exact ⟨rfl, key rfl (by decide +kernel)⟩
theorem refused_ok {d : D} {X : Str} (hx : gReprD (.lst [.str "value", d]) = some X) (δ : Sl) : m__law_refused (.exc ⟨100, [d]⟩ δ) none [.lam] = .ok (.imm (.str X)) none := by
  have S2 : g__law_refused_2 (.exc ⟨100, [d]⟩ δ) [some (.imm .lam), some (.own (.l [.str "none"])), none, none] = .nx [some (.imm .lam), some (.own (.l [.str "value", d])), none, some (.imm (.bl false))] := by
    refine try_exc (δ1 := [some (.imm .lam), some (.own (.l [.str "none"])), none, none]) (x := ⟨100, [d]⟩) (δ2 := [some (.imm .lam), some (.own (.l [.str "value", d])), none, some (.imm (.bl false))]) (by simp) (hCons_hit rfl) (by simp) (by simp [xFldT, xFld, xf_value, xIs, xi_InvalidTable_LimitError, xi_ThreeswapsError])
  (unfold m__law_refused g__law_refused; unfold mir; rw [if_pos (by simp [ioN])]; simp only [ini, ioS, ioN, List.replicate, List.map_cons, List.map_nil, List.length_cons, List.length_nil, List.nil_append, List.cons_append, Nat.zero_add, Nat.reduceAdd, Nat.reduceSub])
  (rw [ap_sSeq]; (conv in (SR.bind _ _) => (arg 1; simp [])); (try rw [SR.bind_nx]))
  rw [ap_sSeq, S2, SR.bind_nx]
  simp [outR, ioOut, hx]
theorem req_bad {d : D} (h : m_is_integer none [d] = .ok (.imm (.bl false)) none) : m_require_integer_d1 none [d] = .exc ⟨100, [d]⟩ none := by
  have r : m_require_integer none [d, .non] = .exc ⟨100, [d]⟩ none := by
    simp [m_require_integer, mir, ini, ioS, ioN, outR, ioOut, g_require_integer, h]
  exact r
theorem odd_at {d : D} (t : List Int) (h : m_is_integer none [d] = .ok (.imm (.bl false)) none) : m_Plan_at none [pl t, d] = .exc ⟨100, [d]⟩ none := by
  simp [m_Plan_at, g_Plan_at, mir, ini, ioS, ioN, outR, ioOut, req_bad h, SR.bind_exc]
theorem odd_call {d : D} (t : List Int) (h : m_is_integer none [d] = .ok (.imm (.bl false)) none) : m_Plan___call__ none [pl t, d] = .exc ⟨100, [d]⟩ none := by
  simp [m_Plan___call__, g_Plan___call__, mir, ini, ioS, ioN, outR, ioOut, tab_at, odd_at t h]
theorem odd_back {d : D} (t : List Int) (h : m_is_integer none [d] = .ok (.imm (.bl false)) none) : m_Plan_back none [pl t, d] = .exc ⟨100, [d]⟩ none := by
  unfold m_Plan_back g_Plan_back
  simp [mir, ini, ioS, ioN, outR, ioOut, req_bad h, SR.bind_exc]
theorem odd_shift {d : D} (h : m_is_integer none [d] = .ok (.imm (.bl false)) none) : m_Plan_shift none [.cls 0, d] = .exc ⟨100, [d]⟩ none := by
  simp [m_Plan_shift, g_Plan_shift, mir, ini, ioS, ioN, outR, ioOut, req_bad h, SR.bind_exc]
theorem call_ok {t : List Int} (h : Good t) (x : Int) : m_Plan___call__ none [pl t, .int x] = .ok (.imm (.int (mv t x))) none := by
  simp [m_Plan___call__, g_Plan___call__, mir, ini, ioS, ioN, outR, ioOut, tab_at, at_ok h x]
theorem refused_right_ok {o : OB} (h : Pot o) (t : List Int) : ∃ o', m__law_refused_right (some o) [pl t] = .ok (.imm (.bl true)) (some o') ∧ Pot o' := by
  obtain ⟨d, o1, e1, p1, hd⟩ := choice_d h (ds := odds) (by decide) (by decide)
  unfold odds at e1
  obtain ⟨hi, X, hX, hS⟩ := odds_ok d hd
  refine ⟨o1, ?_, p1⟩
  have ta : tab_at 0 = some m_Plan_at := rfl
  have tb : tab_back 0 = some m_Plan_back := rfl
  have tc : tab___call__ 0 = some m_Plan___call__ := rfl
  have a1 := odd_at t hi
  have a2 := odd_call t hi
  have a3 := odd_back t hi
  have a4 := odd_shift hi
  have th1 : ∀ s3, thk (fMeth tab_at (vI 1) (aCons (vI 2) aNil)) [some (.brw o1), some (.imm (pl t)), some (.imm d), s3] = .exc ⟨100, [d]⟩ [] := fun s3 => by simp [thk, immP, ta, a1]
  have th2 : ∀ s3, thk (fMeth tab___call__ (vI 1) (aCons (vI 2) aNil)) [some (.brw o1), some (.imm (pl t)), some (.imm d), s3] = .exc ⟨100, [d]⟩ [] := fun s3 => by simp [thk, immP, tc, a2]
  have th3 : ∀ s3, thk (fMeth tab_back (vI 1) (aCons (vI 2) aNil)) [some (.brw o1), some (.imm (pl t)), some (.imm d), s3] = .exc ⟨100, [d]⟩ [] := fun s3 => by simp [thk, immP, tb, a3]
  have th4 : ∀ s3, thk (fCMeth 0 m_Plan_shift (aCons (vI 2) aNil)) [some (.brw o1), some (.imm (pl t)), some (.imm d), s3] = .exc ⟨100, [d]⟩ [] := fun s3 => by simp [thk, immP, a4]
  have re := refused_ok hX []
  have gm : gMul (.lst [.str X]) (.int 4) = some (.own (.l [.str X, .str X, .str X, .str X])) := gRep_d (ds := [.str X]) (k := 4) (by decide) (by simp)
  have ge : gEq (.lst [.str X, .str X, .str X, .str X]) (.lst [.str X, .str X, .str X, .str X]) = some (.imm (.bl true)) := gEq_strs (xs := [X, X, X, X]) (by simp [hS])
  have ap : ∀ ds : List D, ds.length < 1000 → mAppend ds [.str X] = some (.non, ds ++ [.str X]) := fun ds hl => by
    unfold mAppend
    simp [show ds.length < 16777216 by omega]
  unfold m__law_refused_right g__law_refused_right
  unfold mir
  rw [if_pos (by simp [ioN])]
  simp only [ini, ioS, ioN, List.replicate, List.map_cons, List.map_nil, List.length_cons, List.length_nil, List.nil_append, List.cons_append, Nat.zero_add, Nat.reduceAdd, Nat.reduceSub]
  (rw [ap_sSeq]; (conv in (SR.bind _ _) => (arg 1; simp [e1])); (try rw [SR.bind_nx]))
  (rw [ap_sSeq]; (conv in (SR.bind _ _) => (arg 1; simp [frzS, frz1, th1, re, outL, noLam])); (try rw [SR.bind_nx]))
  (rw [ap_sSeq]; (conv in (SR.bind _ _) => (arg 1; simp [frzS, frz1, th2, re, outL, noLam, ap])); (try rw [SR.bind_nx]))
  (rw [ap_sSeq]; (conv in (SR.bind _ _) => (arg 1; simp [frzS, frz1, th3, re, outL, noLam, ap])); (try rw [SR.bind_nx]))
  (rw [ap_sSeq]; (conv in (SR.bind _ _) => (arg 1; simp [frzS, frz1, th4, re, outL, noLam, ap])); (try rw [SR.bind_nx]))
  simp [outR, ioOut, hX, gm, ge]
theorem is_place_int (x : Int) : m__law_is_place none [.int x] = .ok (.imm (.bl true)) none := rfl
theorem asked_ok {t : List Int} (h : Good t) (x : Int) : m__law_asked_right none [pl t, .lst (iL t), .int x] = .ok (.imm (.bl true)) none := by
  have la := law_at_ok h.pos x
  have a1 := at_ok h x
  have a2 := call_ok h x
  have b1 := back_ok h x
  have b2 := back_ok h (mv t x)
  rw [inv_mv h] at b2
  have a3 := at_ok h (inv t x)
  rw [mv_inv h] at a3
  have so := source_ok h x
  have ta : tab_at 0 = some m_Plan_at := rfl
  have tb : tab_back 0 = some m_Plan_back := rfl
  have tc : tab___call__ 0 = some m_Plan___call__ := rfl
  generalize mv t x = y at *
  generalize inv t x = z at *
  have gm : gMul (.lst [.int y]) (.int 4) = some (.own (.l [.int y, .int y, .int y, .int y])) := gRep_d (ds := [.int y]) (k := 4) (by decide) (by simp)
  have gn : gNe (.lst [.int y, .int y, .int y, .int y]) (.lst [.int y, .int y, .int y, .int y]) = some (.imm (.bl false)) := by
    have := gNe_l [y, y, y, y] [y, y, y, y]
    simpa [iL] using this
  have lc := lc_intsD (i := 6) (fi := itSeq (vI 4)) (fe := frz (fOwn m__law_is_place (aCons (vI 6) aNil))) (δ := [some (.imm (pl t)), some (.imm (.lst (iL t))), some (.imm (.int x)), some (.imm (.int y)), some (.imm (.lst (iL [y, y, y, y]))), none, none]) (δ1 := [some (.imm (pl t)), some (.imm (.lst (iL t))), some (.imm (.int x)), some (.imm (.int y)), some (.imm (.lst (iL [y, y, y, y]))), none, none]) (xs := [y, y, y, y]) (fun _ => D.bl true) (by simp) rfl (by simp) (fun v _ => by simp [is_place_int])
  have ga : gAll [.lst [.bl true, .bl true, .bl true, .bl true]] = some (.imm (.bl true)) := gAll_true [y, y, y, y]
  have iy : iL [y, y, y, y] = [.int y, .int y, .int y, .int y] := rfl
  rw [iy] at lc
  simp only [List.map_cons, List.map_nil] at lc
  (unfold m__law_asked_right g__law_asked_right; unfold mir; rw [if_pos (by simp [ioN])]; simp only [ini, ioS, ioN, List.replicate, List.map_cons, List.map_nil, List.length_cons, List.length_nil, List.nil_append, List.cons_append, Nat.zero_add, Nat.reduceAdd, Nat.reduceSub])
  (rw [ap_sSeq]; (conv in (SR.bind _ _) => (arg 1; simp [la])); (try rw [SR.bind_nx]))
  (rw [ap_sSeq]; (conv in (SR.bind _ _) => (arg 1; simp [ta, tc, a1, a2])); (try rw [SR.bind_nx]))
  (rw [ap_sSeq]; (conv in (SR.bind _ _) => (arg 1; simp [gm, gn, lc, ga])); (try rw [SR.bind_nx]))
  (rw [ap_sSeq]; (conv in (SR.bind _ _) => (arg 1; simp [tb, b1])); (try rw [SR.bind_nx]))
  (rw [ap_sSeq]; (conv in (SR.bind _ _) => (arg 1; simp [is_place_int, so, tb, b1])); (try rw [SR.bind_nx]))
  simp [outR, ioOut, tb, b2, ta, a3]
theorem spots_ok {t : List Int} (ht : Good t) {s1 s3 s4 s5 s7 s8 s9 : Option TS.R} : ∀ (ys : List Int) (o : OB) (s10 : Option TS.R), Pot o → ∃ o' s10', Pot o' ∧
    forL (tName 10) g__law_right_5_2B (iL ys) [some (.brw o), s1, some (.imm (.lst (iL t))), s3, s4, s5, some (.imm (pl t)), s7, s8, s9, s10] = .nx [some (.brw o'), s1, some (.imm (.lst (iL t))), s3, s4, s5, some (.imm (pl t)), s7, s8, s9, s10'] := by
  intro ys
  induction ys with
  | nil => intro o s10 p; exact ⟨o, s10, p, rfl⟩
  | cons y ys ih =>
    intro o s10 p
    obtain ⟨o1, e1, p1⟩ := refused_right_ok p t
    have as := asked_ok ht y
    obtain ⟨o', s10', p2, e2⟩ := ih o1 (some (.imm (.int y))) p1
    refine ⟨o', s10', p2, ?_⟩
    rw [← e2, iL_cons]
    simp [forL, as, e1]
theorem turn_ok {o : OB} (h : Pot o) {t : List Int} (ht : Good t) {n : Int} {s3 s4 s5 s9 s10 : Option TS.R} (h3 : s3 = some (.own (plO [n])) ∨ s3 = some (.imm (pl [n]))) :
    ∃ o' x s10', Pot o' ∧ g__law_right_5B [some (.brw o), some (.imm (.int (t.length : Int))), some (.imm (.lst (iL t))), s3, s4, s5, some (.imm (pl t)), some (.imm (.int n)), some (.imm (pl [0])), s9, s10] = .nx [some (.brw o'), some (.imm (.int (t.length : Int))), some (.imm (.lst (iL t))), some (.imm (pl [n])), s4, s5, some (.imm (pl t)), some (.imm (.int n)), some (.imm (pl [0])), some (.imm (.int x)), s10'] := by
  obtain ⟨x, o1, e1, p1, _⟩ := place_ok h
  obtain ⟨o2, s10', p2, e2⟩ := spots_ok ht (s1 := some (.imm (.int (t.length : Int)))) (s3 := s3) (s4 := s4) (s5 := s5) (s7 := some (.imm (.int n))) (s8 := some (.imm (pl [0]))) (s9 := some (.imm (.int x))) [x, x + t.length, x - t.length, x + 1] o1 s10 p1
  have as1 := asked_ok (good_shift n) x
  have as2 := asked_ok (good_shift 0) x
  simp only [iL, List.map_cons, List.map_nil] at as1 as2
  refine ⟨o2, x, s10', p2, ?_⟩
  have it : itSeq (frz (fLst (aCons (vI 9) (aCons (frz (fBin gAdd (vI 9) (vP 1))) (aCons (frz (fBin gSub (vI 9) (vP 1))) (aCons (frz (fBin gAdd (vI 9) (kD (.int 1)))) aNil)))))) [some (.brw o1), some (.imm (.int (t.length : Int))), some (.imm (.lst (iL t))), s3, s4, s5, some (.imm (pl t)), some (.imm (.int n)), some (.imm (pl [0])), some (.imm (.int x)), s10] = .ok (iL [x, x + t.length, x - t.length, x + 1]) [some (.brw o1), some (.imm (.int (t.length : Int))), some (.imm (.lst (iL t))), s3, s4, s5, some (.imm (pl t)), some (.imm (.int n)), some (.imm (pl [0])), some (.imm (.int x)), s10] := by
    simp [iL]
  show sSeq _ (sSeq _ _) _ = _
  (rw [ap_sSeq]; (conv in (SR.bind _ _) => (arg 1; simp [e1])); (try rw [SR.bind_nx]))
  rw [ap_sSeq, show g__law_right_5_2 _ = _ from for_st it e2, SR.bind_nx]
  rcases h3 with rfl | rfl
  · simp [as1, as2]
  · simp [as1, as2]
theorem turns_ok {t : List Int} (ht : Good t) {n : Int} {s5 : Option TS.R} : ∀ (k i : Nat) (o : OB) (s3 s4 s9 s10 : Option TS.R), Pot o → (s3 = some (.own (plO [n])) ∨ s3 = some (.imm (pl [n]))) → (s9 = none ∨ ∃ z : Int, s9 = some (.imm (.int z))) →
    ∃ o' s3' s4' s9' s10', Pot o' ∧ (s9' = none ∨ ∃ z : Int, s9' = some (.imm (.int z))) ∧ (s3' = some (.own (plO [n])) ∨ s3' = some (.imm (pl [n]))) ∧ forL (tName 4) g__law_right_5B (iL (nats i k)) [some (.brw o), some (.imm (.int (t.length : Int))), some (.imm (.lst (iL t))), s3, s4, s5, some (.imm (pl t)), some (.imm (.int n)), some (.imm (pl [0])), s9, s10] = .nx [some (.brw o'), some (.imm (.int (t.length : Int))), some (.imm (.lst (iL t))), s3', s4', s5, some (.imm (pl t)), some (.imm (.int n)), some (.imm (pl [0])), s9', s10'] := by
  intro k
  induction k with
  | zero => intro i o s3 s4 s9 s10 p h3 h9; exact ⟨o, s3, s4, s9, s10, p, h9, h3, by simp [nats, forL, iL]⟩
  | succ k ih =>
    intro i o s3 s4 s9 s10 p h3 h9
    obtain ⟨o1, b9, b10, p1, e1⟩ := turn_ok p ht (n := n) (s3 := s3) (s4 := some (.imm (.int (i : Int)))) (s5 := s5) (s9 := s9) (s10 := s10) h3
    obtain ⟨o', c3, c4, c9, c10, p2, h9', h3', e2⟩ := ih (i + 1) o1 (some (.imm (pl [n]))) (some (.imm (.int (i : Int)))) (some (.imm (.int b9))) b10 p1 (.inr rfl) (.inr ⟨b9, rfl⟩)
    refine ⟨o', c3, c4, c9, c10, p2, h9', h3', ?_⟩
    rw [← e2, nats_succ]
    simp only [forL, ap_tNameI, SR.bind_nx, List.set_cons_succ, List.set_cons_zero, e1]
def goalsL (t : List Int) : List Int := ((List.range (3 * t.length)).map fun i : Nat => -(t.length : Int) + (i : Int)).map (mv t)
theorem goals_len {t : List Int} (h : Good t) : (goalsL t).eraseDups.length = 3 * t.length := by
  have nd : (goalsL t).Nodup := by
    unfold goalsL
    rw [List.map_map, nodup_iff]
    intro i j hij hj e
    simp only [List.length_map, List.length_range] at hj
    rw [List.getElem?_map, List.getElem?_map, List.getElem?_range (by omega), List.getElem?_range (by omega)] at e
    simp only [Option.map_some, Option.some.injEq, Function.comp] at e
    have := h.inj _ _ e
    omega
  rw [dups_nodup nd]
  simp [goalsL]
theorem right_ok {o : OB} (h : Pot o) : ∃ io, m__law_right (some o) [] = .ok (.imm (.bl true)) io := by
  obtain ⟨r, o1, e1, p1, hr⟩ := choice_ok h (xs := sizes) (by decide) (by decide)
  obtain ⟨r0, r1⟩ := sizes_ok r hr
  simp only [sizes, iL, List.map_cons, List.map_nil] at e1
  obtain ⟨w, o2, e2, p2, a2, b2⟩ := draw_ok p1 (m := 3) (by decide) (by decide)
  obtain ⟨t, o3, e3, p3, l3, g3, bd3⟩ := table_good p2 (n := r) (w := w) (by omega) (by omega)
  obtain ⟨n, o4, e4, p4, bn⟩ := place_ok p3
  have er : r = (t.length : Int) := by omega
  subst er
  have i1 := init_ok g3
  have idk := identity_ok
  have sh := shift_ok n
  obtain ⟨o5, c3, c4, c9, c10, p5, h9, h3, e5⟩ := turns_ok g3 (n := n) (s5 := none) 10 0 o4 (some (.own (plO [n]))) none none none p4 (.inl rfl) (.inl rfl)
  refine ⟨some o5, ?_⟩
  have ta : tab_at 0 = some m_Plan_at := rfl
  have it : itRg1 (kD (.int 10)) [some (.brw o4), some (.imm (.int (t.length : Int))), some (.imm (.lst (iL t))), some (.own (plO [n])), none, none, some (.imm (pl t)), some (.imm (.int n)), some (.imm (pl [0])), none, none] = .ok (iL (nats 0 10)) [some (.brw o4), some (.imm (.int (t.length : Int))), some (.imm (.lst (iL t))), some (.own (plO [n])), none, none, some (.imm (pl t)), some (.imm (.int n)), some (.imm (pl [0])), none, none] := itRg1_ok (k := 10) (by omega) (by simp)
  have m2 : gMul (.int 2) (.int (t.length : Int)) = some (.imm (.int (2 * (t.length : Int)))) := gMul_i (by decide) (by omega)
  have m3 : gMul (.int 3) (.int (t.length : Int)) = some (.imm (.int (3 * (t.length : Int)))) := gMul_i (by decide) (by omega)
  have S6 : g__law_right_6 [some (.brw o5), some (.imm (.int (t.length : Int))), some (.imm (.lst (iL t))), c3, c4, none, some (.imm (pl t)), some (.imm (.int n)), some (.imm (pl [0])), c9, c10] = .nx [some (.brw o5), some (.imm (.int (t.length : Int))), some (.imm (.lst (iL t))), c3, c4, some (.own (.l (iL (goalsL t)))), some (.imm (pl t)), some (.imm (.int n)), some (.imm (pl [0])), c9, c10] := by
    have key : ∀ δ : Sl, δ = [some (.brw o5), some (.imm (.int (t.length : Int))), some (.imm (.lst (iL t))), c3, c4, none, some (.imm (pl t)), some (.imm (.int n)), some (.imm (pl [0])), c9, c10] → freeS δ 9 = true → fLc (stName 9) [9] (itRg2 (fUnI (fun i => -i) (vI 1)) (frz (fBin gMul (kD (.int 2)) (vP 1)))) tTrue (frz (fMeth tab_at (vI 6) (aCons (vI 9) aNil))) δ = .ok (.own (.l (iL (goalsL t)))) δ := fun δ hδ hf => by
      have it2 := itRg2_int (f := fUnI (fun i => -i) (vI 1)) (g := frz (fBin gMul (kD (.int 2)) (vP 1))) (δ := δ) (δ1 := δ) (δ2 := δ) (a := -(t.length : Int)) (b := 2 * (t.length : Int)) (by omega) (by omega) (by rw [hδ]; simp) (by rw [hδ]; simp [m2])
      rw [show (2 * (t.length : Int) - -(t.length : Int)).toNat = 3 * t.length by omega] at it2
      exact lc_ints (i := 9) (mv t) it2 hf (by simp; omega) (fun y _ => by have := at_ok g3 y; rw [hδ]; simp [ta, this])
    show sAsg (fLc _ _ _ _ _) (tName 5) _ = _
    rw [ap_sAsg, key _ rfl (by rcases h9 with rfl | ⟨z, rfl⟩ <;> rfl)]
    rfl
  have gl := goals_len g3
  have gle : (goalsL t).length ≤ 4000 := by simp [goalsL]; omega
  have sa := at_ok (good_shift n) 0
  have s0 : mv [n] 0 = n := by unfold mv; rw [act_shift]; omega
  rw [s0] at sa
  have ii := intsD_ints (goalsL t)
  unfold m__law_right g__law_right
  unfold mir
  rw [if_pos (by simp [ioN])]
  simp only [ini, ioS, ioN, List.replicate, List.map_cons, List.map_nil, List.length_cons, List.length_nil, List.nil_append, List.cons_append, Nat.zero_add, Nat.reduceAdd, Nat.reduceSub]
  (rw [ap_sSeq]; (conv in (SR.bind _ _) => (arg 1; simp [e1])); (try rw [SR.bind_nx]))
  (rw [ap_sSeq]; (conv in (SR.bind _ _) => (arg 1; simp [e2, e3])); (try rw [SR.bind_nx]))
  (rw [ap_sSeq]; (conv in (SR.bind _ _) => (arg 1; simp [i1, e4, idk])); (try rw [SR.bind_nx]))
  (rw [ap_sSeq]; (conv in (SR.bind _ _) => (arg 1; simp [sh])); (try rw [SR.bind_nx]))
  rw [ap_sSeq, show g__law_right_5 _ = _ from for_st it e5, SR.bind_nx]
  rw [ap_sSeq, S6, SR.bind_nx]
  simp [outR, ioOut, ii, gle, gl, m3, sh, ta, sa]
theorem law_true (ns : List Int) (hl : ns.length ≤ 63) : m_law none [.scr (ns.map D.int)] = .ok (.imm (.bl true)) none := by
  refine law_of (c := 8) (by decide) ns fun a ha => ?_
  obtain ⟨o, e, p⟩ := pot_ok ns a (by omega)
  obtain ⟨io, e2⟩ := right_ok p
  simp [e, e2]

end
end K12

set_option maxHeartbeats 0
namespace K12
open PySem L2 TS
theorem facts {P : Program} {w : World} {K : PySem.W.Frag} {h : Heap} {mg : Str → Option Value} {f : Addr} (X : K.In h) (G : h.Ns mainGlobals mg) (hfa : mg ("law" : Str) = some (.ref f)) (c : SaysT fa fn tn K h) :
    ∃ fd : FuncData, (∀ (s : Shared) (v : Value), BindsTo s fd ⟨[v], []⟩ [("_law_script", v)]) ∧ ∀ base : Heap, K.In base → base.Ns mainGlobals mg → (∀ p ∈ csOf tn K, LamX.TabB base mg p.1 p.2) → TS.FnOk P w K mg base (L2.CX P w) 11 f fd ["_law_script"] (spD (MM K) m_law) := by
  obtain ⟨fd, F⟩ := c.s.def_ 29 (d := d_law) rfl
  have e := hfa.symm.trans (He.glo_ok X G (c.s.fact 75 (f := .he (.glo "law")) rfl))
  cases e
  have b := FunD.bindsA (ps := ["_law_script"]) F fun _ _ _ _ _ _ us hl => match us, hl with | [_], _ => rfl
  exact ⟨fd, fun s v => b s [v] rfl, fun base hX hG hT => funD_mir (M := MM K) F S_law (by decide) (fun cdv A outer s H E hr tk hp => b_law (base := base) ⟨c.s, hX, hG, hT, fun x hx => (c.m x hx).1, c.u⟩ cdv A outer s H E hr tk hp)⟩
theorem sp_law {K : PySem.W.Frag} {H : Hp} {a : Addr} {ns : List Int} (hl : ns.length ≤ 63) (hH : ∀ p ∈ csOf tn K, H p.2 = some (.tbl #[])) (hS : SqL K H a (ns.map V.int)) : spD (MM K) m_law [.ref a] H (fun v _ => v = .bl true) (fun _ _ _ => False) := by
  obtain ⟨F, s, tb, rs⟩ := entry (M := MM K) hS (fun p hp => (List.mem_map.mp hp).elim fun x z => by rw [← z.2]; exact hH _ (List.mem_map.mpr ⟨x, z.1, rfl⟩))
  refine ⟨F, none, 0, [.ref a], [.scr (ns.map D.int)], rfl, s, tb, rs, trivial, ?_⟩
  rw [law_true ns hl]
  intro v F' H' st ra ia
  have z : rep (MM K) F' (.bl true) v := ra
  unfold rep at z
  exact z
end K12
open PySem PySem.W PySem.Calls PyProof.Rows
theorem PySem.Challenge.cw_threeswaps_k12_places_moved_holds : PySem.Challenge.rw_threeswaps_k12_places_moved.Holds := by
  w_on; o_law
  refine HandSHeadRun.head_any (r := OpenLaw.row PySem.Challenge.rw_threeswaps_k12_places_moved) (q := view (OpenLaw.row PySem.Challenge.rw_threeswaps_k12_places_moved).prog [37]) (H := K12.hk) (ob := K12.ob) (M := 6000) (loose := K12.loose) (d := HandSHeadRun.topDef (OpenLaw.row PySem.Challenge.rw_threeswaps_k12_places_moved).prog 37) (kwd := []) K12.ob_eq
    (by kernel_rfl) (fun s => by kernel_rfl) K12.run (by kernel_rfl) (by kernel_rfl) (by kernel_rfl) (by rfl) (by first | assumption | decide +kernel) (by decide +kernel) ⟨rfl, rfl, rfl, rfl, rfl, by decide +kernel⟩ ?hw ?hc
  case hw => w_witness2
  case hc =>
    refine TS.walk_ofT (l := PySem.Challenge.rw_threeswaps_k12_places_moved) (n := 63) (k := 11) (x := "_law_script") (CX := fun w => L2.CX PySem.Challenge.rw_threeswaps_k12_places_moved.prog w) rfl (by decide) (by kernel_rfl) ⟨⟨rfl, by decide, by decide⟩, rfl⟩ ?F (fun _ _ _ _ _ z => TS.noCX z)
    intro w mg fa h Y G hmg0
    obtain ⟨K, KX, c⟩ := Y
    have hmg : mg ("law" : PySem.Str) = some (.ref fa) := by
      have e : (HandSHeadRun.topDef (OpenLaw.row PySem.Challenge.rw_threeswaps_k12_places_moved).prog 37).name = ("law" : PySem.Str) := by kernel_rfl
      rw [← e]
      exact hmg0
    obtain ⟨fd, hb, hF⟩ := K12.facts (P := (PySem.Challenge.rw_threeswaps_k12_places_moved).prog) (w := w) KX G hmg c
    exact ⟨K, TS.csOf K12.tn K, fd, _, KX, TS.cs_tab c, TS.cs_no c, TS.cs_code KX c, hb, fun H a ns hl hH hS => K12.sp_law hl hH hS, hF⟩
