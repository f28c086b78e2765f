import PyProof.Rows.All
import Wide.All
import OpenK.AllK
import Wide.FinOn
import HandS.Codes
import HandS.Conv
import HandS.DictComp
import HandS.EndTab
import HandS.Evl
import HandS.ExcIs
import HandS.ExcOwn
import HandS.ForMost
import HandS.IsInst
import HandS.Lambda
import HandS.More
import HandS.SetFor
import HandS.Small
import HandS.SortInts
import HandS.Star
import HandS.Steps
import HandS.Strs
import HandS.Style
import HandS.TupAny
import HandS.TupSets
import HandS.WordsExc
import KE.GoesMore
import KE.KDictKeyed
import KE.KNestM
import KE.KeyNested
import KE.SortData
import PySem.Challenge.RW_lastholders_k04_whole_ends
section Part_DL1
set_option Elab.async false
set_option linter.all false
set_option maxRecDepth 100000
set_option maxHeartbeats 2000000
set_option autoImplicit false
namespace DL
open PySem PySem.Spec PyProof.Rows L2 Evl

/-! ## data -/
inductive D where
  | non | bl (b : Bool) | int (i : Int) | lst (xs : List D) | tup (xs : List D) | dic (kvs : List (Int × Int)) | adr (a : Nat) (o : Hp → Prop)

/-- how a dict from whole numbers to whole numbers lies in the abstract heap -/
def dkv (kvs : List (Int × Int)) : List (Key × V) := kvs.map fun p => (Sum.inl p.1, V.int p.2)

/-- all but the tables of code objects stay -/
def ExN (H H' : Hp) : Prop := ∀ b o, H b = some o → (∀ ps, o ≠ .tbl ps) → H' b = some o
theorem ExN.refl (H : Hp) : ExN H H := fun _ _ h _ => h
theorem ExN.trans {H H1 H2 : Hp} (a : ExN H H1) (b : ExN H1 H2) : ExN H H2 := fun c o h n => b c o (a c o h n) n
theorem ExN.of {H H' : Hp} (e : Ex H H') : ExN H H' := fun b o h _ => e b o h
mutual
/-- the value v stands for the data d in the heap H -/
def Rep (H : Hp) : D → V → Prop
  | .non, v => v = .non
  | .bl b, v => v = .bl b
  | .int i, v => v = .int i
  | .lst ds, v => ∃ a xs, v = .ref a ∧ H a = some (.lst xs) ∧ Reps H ds xs
  | .tup ds, v => ∃ a xs, v = .ref a ∧ H a = some (.tup xs) ∧ Reps H ds xs
  | .dic kvs, v => ∃ a, v = .ref a ∧ H a = some (.dK (dkv kvs))
  | .adr a o, v => v = .ref a ∧ ∀ H', ExN H H' → o H'
def Reps (H : Hp) : List D → List V → Prop
  | [], xs => xs = []
  | d :: ds, xs => ∃ x r, xs = x :: r ∧ Rep H d x ∧ Reps H ds r
end

mutual
theorem Rep.monoN {H H' : Hp} (e : ExN H H') : ∀ {d : D} {v : V}, Rep H d v → Rep H' d v
  | .non, _, h => h
  | .bl _, _, h => h
  | .int _, _, h => h
  | .lst _, _, ⟨a, xs, hv, ha, hr⟩ => ⟨a, xs, hv, e a _ ha (fun _ z => nomatch z), Reps.monoN e hr⟩
  | .tup _, _, ⟨a, xs, hv, ha, hr⟩ => ⟨a, xs, hv, e a _ ha (fun _ z => nomatch z), Reps.monoN e hr⟩
  | .dic _, _, ⟨a, hv, ha⟩ => ⟨a, hv, e a _ ha (fun _ z => nomatch z)⟩
  | .adr _ _, _, h => ⟨h.1, fun H2 q => h.2 H2 (e.trans q)⟩
theorem Reps.monoN {H H' : Hp} (e : ExN H H') : ∀ {ds : List D} {vs : List V}, Reps H ds vs → Reps H' ds vs
  | [], _, h => h
  | _ :: _, _, ⟨x, r, hv, h1, h2⟩ => ⟨x, r, hv, Rep.monoN e h1, Reps.monoN e h2⟩
end
theorem Rep.mono {H H' : Hp} (e : Ex H H') {d : D} {v : V} (h : Rep H d v) : Rep H' d v := h.monoN (.of e)
theorem Reps.mono {H H' : Hp} (e : Ex H H') {ds : List D} {vs : List V} (h : Reps H ds vs) : Reps H' ds vs := h.monoN (.of e)

theorem Reps.len {H : Hp} : ∀ {ds : List D} {vs : List V}, Reps H ds vs → vs.length = ds.length
  | [], _, h => by
    cases (show _ = [] from h)
    rfl
  | _ :: ds, _, ⟨x, r, hv, _, h2⟩ => by
    subst hv
    exact congrArg (· + 1) (Reps.len h2)
theorem Reps.get {H : Hp} : ∀ {ds : List D} {vs : List V} {i : Nat} {d : D}, Reps H ds vs → ds[i]? = some d → ∃ v, vs[i]? = some v ∧ Rep H d v
  | [], _, _, _, _, e => by simp at e
  | d0 :: ds, _, 0, d, ⟨x, r, hv, h1, _⟩, e => by
    subst hv
    cases (show d0 = d from Option.some.inj e)
    exact ⟨x, rfl, h1⟩
  | d0 :: ds, _, i + 1, d, ⟨x, r, hv, _, h2⟩, e => by
    subst hv
    exact Reps.get h2 (i := i) e
theorem Reps.get' {H : Hp} : ∀ {ds : List D} {vs : List V} {i : Nat} {v : V}, Reps H ds vs → vs[i]? = some v → ∃ d, ds[i]? = some d ∧ Rep H d v
  | [], _, _, _, h, e => by
    cases (show _ = [] from h)
    simp at e
  | d0 :: ds, _, 0, v, ⟨x, r, hv, h1, _⟩, e => by
    subst hv
    cases (show x = v from Option.some.inj e)
    exact ⟨d0, rfl, h1⟩
  | d0 :: ds, _, i + 1, v, ⟨x, r, hv, _, h2⟩, e => by
    subst hv
    exact Reps.get' h2 (i := i) e
theorem Reps.append {H : Hp} : ∀ {ds es : List D} {vs ws : List V}, Reps H ds vs → Reps H es ws → Reps H (ds ++ es) (vs ++ ws)
  | [], _, _, _, h, k => by
    cases (show _ = [] from h)
    exact k
  | _ :: _, _, _, _, ⟨x, r, hv, h1, h2⟩, k => by
    subst hv
    exact ⟨x, _, rfl, h1, Reps.append h2 k⟩
theorem Reps.take {H : Hp} : ∀ {ds : List D} {vs : List V} (n : Nat), Reps H ds vs → Reps H (ds.take n) (vs.take n)
  | _, _, 0, _ => by
    rw [List.take_zero, List.take_zero]
    exact rfl
  | [], _, n + 1, h => by
    cases (show _ = [] from h)
    exact rfl
  | _ :: _, _, n + 1, ⟨x, r, hv, h1, h2⟩ => by
    subst hv
    exact ⟨x, _, rfl, h1, Reps.take n h2⟩
theorem Reps.drop {H : Hp} : ∀ {ds : List D} {vs : List V} (n : Nat), Reps H ds vs → Reps H (ds.drop n) (vs.drop n)
  | _, _, 0, h => by
    rw [List.drop_zero, List.drop_zero]
    exact h
  | [], _, n + 1, h => by
    cases (show _ = [] from h)
    exact rfl
  | _ :: _, _, n + 1, ⟨x, r, hv, _, h2⟩ => by
    subst hv
    exact Reps.drop n h2
theorem Reps.one {H : Hp} {d : D} {v : V} (h : Rep H d v) : Reps H [d] [v] := ⟨v, [], rfl, h, rfl⟩
theorem Reps.cons {H : Hp} {d : D} {v : V} {ds : List D} {vs : List V} (h : Rep H d v) (t : Reps H ds vs) : Reps H (d :: ds) (v :: vs) := ⟨v, vs, rfl, h, t⟩
theorem Reps.nil {H : Hp} : Reps H [] [] := rfl

/-! ## what is hidden -/
/-- the heap without the objects at S -/
def hid (H : Hp) (S : List Addr) : Hp := fun a => if a ∈ S then none else H a
theorem hid_sub {H : Hp} {S : List Addr} : Ex (hid H S) H := fun a o h => by
  unfold hid at h
  split at h
  · cases h
  · exact h
theorem hid_of {H : Hp} {S : List Addr} {a : Addr} {o : HO} (h : H a = some o) (n : a ∉ S) : hid H S a = some o := by
  unfold hid
  rw [if_neg n]
  exact h
theorem hid_mono {H H' : Hp} {S : List Addr} (e : Ex H H') : Ex (hid H S) (hid H' S) := fun a o h => by
  unfold hid at h ⊢
  split at h
  · cases h
  · rw [if_neg (by assumption)]
    exact e a o h
theorem hid_less {H : Hp} {S S' : List Addr} (h : ∀ a ∈ S, a ∈ S') : Ex (hid H S') (hid H S) := fun a o q => by
  unfold hid at q ⊢
  split at q
  · cases q
  · rename_i n
    rw [if_neg fun z => n (h a z)]
    exact q
theorem hid_nil {H : Hp} : hid H [] = H := by
  funext a
  unfold hid
  rw [if_neg (by simp)]
/-- what is hidden is there -/
def InD (S : List Addr) (H : Hp) : Prop := ∀ a ∈ S, H a ≠ none
theorem InD.mono {S : List Addr} {H H' : Hp} (h : InD S H) (e : Ex H H') : InD S H' := fun a m z => by
  cases q : H a with
  | none => exact h a m q
  | some o => rw [e a o q] at z; cases z
theorem InD.new {S : List Addr} {H : Hp} {p : Addr} (h : InD S H) (n : H p = none) : p ∉ S := fun m => h p m n
theorem InD.nil {H : Hp} : InD [] H := fun _ m => nomatch m
theorem InD.cons {S : List Addr} {H : Hp} {p : Addr} {o : HO} (h : InD S H) (q : H p = some o) : InD (p :: S) H := fun a m => by
  rcases List.mem_cons.mp m with e | m
  · subst e
    rw [q]
    exact fun z => nomatch z
  · exact h a m
/-- what a new object adds is seen -/
theorem hid_new {S : List Addr} {H : Hp} {p : Addr} {o : HO} (h : InD S H) (n : H p = none) : hid (upd H p o) S p = some o := hid_of upd_same (h.new n)
/-- hiding a new one, too, hides nothing of the old -/
theorem hid_more {S S' : List Addr} {H H' : Hp} (e : Ex H H') (h : ∀ a ∈ S', a ∈ S ∨ H a = none) : Ex (hid H S) (hid H' S') := fun a o q => by
  have qa : H a = some o := hid_sub a o q
  refine hid_of (e a o qa) fun m => ?_
  rcases h a m with z | z
  · unfold hid at q
    rw [if_pos z] at q
    cases q
  · rw [qa] at z
    cases z

/-! ## environments -/
abbrev En := List (Option D)
structure RepS (H : Hp) (σ : L2.St) (ρ : En) : Prop where
  len : σ.length = ρ.length
  at' : ∀ (i : Nat) (d : D), ρ[i]? = some (some d) → ∃ v, σ[i]? = some (some v) ∧ Rep H d v
theorem RepS.mono {H H' : Hp} {σ : L2.St} {ρ : En} (e : Ex H H') (h : RepS H σ ρ) : RepS H' σ ρ := ⟨h.len, fun i d q => by
  obtain ⟨v, h1, h2⟩ := h.at' i d q
  exact ⟨v, h1, h2.mono e⟩⟩
theorem RepS.set {H : Hp} {σ : L2.St} {ρ : En} {i : Nat} {d : D} {v : V} (h : RepS H σ ρ) (r : Rep H d v) : RepS H (σ.set i (some v)) (ρ.set i (some d)) := by
  refine ⟨by rw [List.length_set, List.length_set]; exact h.len, fun j e q => ?_⟩
  by_cases hj : i = j
  · subst hj
    by_cases hl : i < ρ.length
    · rw [List.getElem?_set_self hl] at q
      cases q
      exact ⟨v, List.getElem?_set_self (by rw [h.len]; exact hl), r⟩
    · rw [List.getElem?_eq_none (by rw [List.length_set]; omega)] at q
      cases q
  · rw [List.getElem?_set_ne hj] at q
    obtain ⟨w, h1, h2⟩ := h.at' j e q
    exact ⟨w, by rw [List.getElem?_set_ne hj]; exact h1, h2⟩
/-- forgetting a place -/
theorem RepS.drop {H : Hp} {σ : L2.St} {ρ : En} (h : RepS H σ ρ) (i : Nat) : RepS H σ (ρ.set i none) := by
  refine ⟨by rw [List.length_set]; exact h.len, fun j e q => ?_⟩
  by_cases hj : i = j
  · subst hj
    by_cases hl : i < ρ.length
    · rw [List.getElem?_set_self hl] at q
      cases q
    · rw [List.getElem?_eq_none (by rw [List.length_set]; omega)] at q
      cases q
  · rw [List.getElem?_set_ne hj] at q
    exact h.at' j e q
theorem RepS.setN {H : Hp} {σ : L2.St} {ρ : En} (h : RepS H σ ρ) (i : Nat) : RepS H (σ.set i none) (ρ.set i none) := by
  refine ⟨by rw [List.length_set, List.length_set]; exact h.len, fun j e q => ?_⟩
  by_cases hj : i = j
  · subst hj
    by_cases hl : i < ρ.length
    · rw [List.getElem?_set_self hl] at q
      cases q
    · rw [List.getElem?_eq_none (by rw [List.length_set]; omega)] at q
      cases q
  · rw [List.getElem?_set_ne hj] at q
    obtain ⟨w, h1, h2⟩ := h.at' j e q
    exact ⟨w, by rw [List.getElem?_set_ne hj]; exact h1, h2⟩
/-- the slot i holds something of no account -/
theorem RepS.any {H : Hp} {σ : L2.St} {ρ : En} {i : Nat} {x : Option V} (h : RepS H σ ρ) : RepS H (σ.set i x) (ρ.set i none) := by
  refine ⟨by rw [List.length_set, List.length_set]; exact h.len, fun j e q => ?_⟩
  by_cases hj : i = j
  · subst hj
    by_cases hl : i < ρ.length
    · rw [List.getElem?_set_self hl] at q
      cases q
    · rw [List.getElem?_eq_none (by rw [List.length_set]; omega)] at q
      cases q
  · rw [List.getElem?_set_ne hj] at q
    obtain ⟨w, h1, h2⟩ := h.at' j e q
    exact ⟨w, by rw [List.getElem?_set_ne hj]; exact h1, h2⟩
def wipeE (ρ : En) : List Nat → En
  | [] => ρ
  | v :: vs => (wipeE ρ vs).set v none
theorem RepS.wipe {H : Hp} {σ : L2.St} {ρ : En} (h : RepS H σ ρ) : ∀ vs : List Nat, RepS H (L2.wipe σ vs) (wipeE ρ vs)
  | [] => h
  | v :: vs => (RepS.wipe h vs).setN v

/-! ## readings by data -/
def tD (f : En → Option D) : TE := fun σ H Q => ∃ ρ S d, InD S H ∧ RepS (hid H S) σ ρ ∧ f ρ = some d ∧ ∀ v H', Ex H H' → Rep (hid H' S) d v → Q v H'
def tDA (f : En → Option (List D)) : TA := fun σ H Q => ∃ ρ S ds, InD S H ∧ RepS (hid H S) σ ρ ∧ f ρ = some ds ∧ ∀ vs H', Ex H H' → Reps (hid H' S) ds vs → Q vs H'
def tDT (f : En → Option Bool) : TT := fun σ H Q => ∃ ρ S b, InD S H ∧ RepS (hid H S) σ ρ ∧ f ρ = some b ∧ ∀ H', Ex H H' → Q b H'
theorem PE.imp {X : Cx} {e : Expr} {t t' : TE} (h : PE X e t) (i : ∀ σ H Q, t' σ H Q → t σ H Q) : PE X e t' := ⟨fun pins s σ H Q I q => h.run pins s σ H Q I (i σ H Q q)⟩
theorem PT.imp {X : Cx} {e : Expr} {t t' : TT} (h : PT X e t) (i : ∀ σ H Q, t' σ H Q → t σ H Q) : PT X e t' := ⟨fun pins s σ H Q I q => h.run pins s σ H Q I (i σ H Q q)⟩
theorem PA.imp {X : Cx} {es : List Expr} {t t' : TA} (h : PA X es t) (i : ∀ σ H Q, t' σ H Q → t σ H Q) : PA X es t' := ⟨fun pos pins s σ H Q I q => h.run pos pins s σ H Q I (i σ H Q q)⟩
theorem PS.imp {X : Cx} {st : Stmt} {t t' : TS} (h : PS X st t) (i : ∀ D σ H, t' D σ H → t D σ H) : PS X st t' := ⟨fun pins s σ H D I q => h.run pins s σ H D I (i D σ H q)⟩
theorem PSs.imp {X : Cx} {st : List Stmt} {t t' : TS} (h : PSs X st t) (i : ∀ D σ H, t' D σ H → t D σ H) : PSs X st t' := ⟨fun pins s σ H D I q => h.run pins s σ H D I (i D σ H q)⟩

section
variable {X : Cx} {a b c e : Expr} {fa fb fc : En → Option D} {pos : Pos}

/-- one part, then something -/
theorem tD_one {fa : En → Option D} {g : D → Option D} {σ : L2.St} {H : Hp} {Q : VK} {R : V → Hp → Prop} (h : tD (fun ρ => (fa ρ).bind g) σ H Q)
    (hR : ∀ S dx d vx H1, InD S H1 → Rep (hid H1 S) dx vx → g dx = some d → (∀ v H2, Ex H1 H2 → Rep (hid H2 S) d v → Q v H2) → R vx H1) : tD fa σ H R := by
  obtain ⟨ρ, S, d, hS, hr, hf, hq⟩ := h
  cases ha : fa ρ with
  | none =>
    simp only [ha] at hf
    cases hf
  | some dx =>
    simp only [ha] at hf
    exact ⟨ρ, S, dx, hS, hr, ha, fun v H1 e1 r1 => hR S dx d v H1 (hS.mono e1) r1 hf fun v2 H2 e2 r2 => hq v2 H2 (e1.trans e2) r2⟩
/-- two parts from the left -/
theorem tD_two {g : D → D → Option D} {σ : L2.St} {H : Hp} {Q : VK} {R : V → V → Hp → Prop} (h : tD (fun ρ => (fa ρ).bind fun x => (fb ρ).bind fun y => g x y) σ H Q)
    (hR : ∀ S dx dy d vx vy H1, InD S H1 → Rep (hid H1 S) dx vx → Rep (hid H1 S) dy vy → g dx dy = some d → (∀ v H2, Ex H1 H2 → Rep (hid H2 S) d v → Q v H2) → R vx vy H1) :
    tD fa σ H fun x H1 => tD fb σ H1 fun y H2 => R x y H2 := by
  obtain ⟨ρ, S, d, hS, hr, hf, hq⟩ := h
  cases ha : fa ρ with
  | none =>
    simp only [ha] at hf
    cases hf
  | some dx =>
    simp only [ha] at hf
    cases hb : fb ρ with
    | none =>
      simp only [hb] at hf
      cases hf
    | some dy =>
      simp only [hb] at hf
      refine ⟨ρ, S, dx, hS, hr, ha, fun v H1 e1 r1 => ⟨ρ, S, dy, hS.mono e1, hr.mono (hid_mono e1), hb, fun u H2 e2 r2 => ?_⟩⟩
      exact hR S dx dy d v u H2 ((hS.mono e1).mono e2) (r1.mono (hid_mono e2)) r2 hf fun w H3 e3 r3 => hq w H3 ((e1.trans e2).trans e3) r3
/-- arguments, then something -/
theorem tDA_one {f : En → Option (List D)} {g : List D → Option D} {σ : L2.St} {H : Hp} {Q : VK} {R : List V → Hp → Prop} (h : tD (fun ρ => (f ρ).bind g) σ H Q)
    (hR : ∀ S ds d vs H1, InD S H1 → Reps (hid H1 S) ds vs → g ds = some d → (∀ v H2, Ex H1 H2 → Rep (hid H2 S) d v → Q v H2) → R vs H1) : tDA f σ H R := by
  obtain ⟨ρ, S, d, hS, hr, hf, hq⟩ := h
  cases ha : f ρ with
  | none =>
    simp only [ha] at hf
    cases hf
  | some ds =>
    simp only [ha] at hf
    exact ⟨ρ, S, ds, hS, hr, ha, fun v H1 e1 r1 => hR S ds d v H1 (hS.mono e1) r1 hf fun v2 H2 e2 r2 => hq v2 H2 (e1.trans e2) r2⟩

/-! ### names, constants -/
def vE (i : Nat) : En → Option D := fun ρ => (ρ[i]?).bind id
theorem vE_some {i : Nat} {ρ : En} {d : D} (h : vE i ρ = some d) : ρ[i]? = some (some d) := by
  unfold vE at h
  cases q : ρ[i]? with
  | none => rw [q] at h; cases h
  | some o => rw [q] at h; exact congrArg some h
theorem de_var {i : Nat} (h : PE X e (tVar i)) : PE X e (tD (vE i)) := PE.imp h fun σ H Q ⟨ρ, S, d, hS, hr, hf, hq⟩ => by
  obtain ⟨v, h1, h2⟩ := hr.at' i d (vE_some hf)
  exact ⟨v, h1, hq v H (Ex.refl H) h2⟩
def cE (d : D) : En → Option D := fun _ => some d
theorem de_int {i : Int} (h : PE X e (tC (.int i))) : PE X e (tD (cE (.int i))) := PE.imp h fun σ H Q ⟨ρ, S, d, hS, hr, hf, hq⟩ => by
  cases hf
  exact hq _ H (Ex.refl H) rfl
theorem de_bl {i : Bool} (h : PE X e (tC (.bl i))) : PE X e (tD (cE (.bl i))) := PE.imp h fun σ H Q ⟨ρ, S, d, hS, hr, hf, hq⟩ => by
  cases hf
  exact hq _ H (Ex.refl H) rfl
theorem de_non (h : PE X e (tC .non)) : PE X e (tD (cE .non)) := PE.imp h fun σ H Q ⟨ρ, S, d, hS, hr, hf, hq⟩ => by
  cases hf
  exact hq _ H (Ex.refl H) rfl

/-! ### operators -/
/-- what an operator's rule asks, by data -/
def RD (r : R2) (g : D → D → Option D) : Prop := ∀ S dx dy d vx vy H Q, InD S H → Rep (hid H S) dx vx → Rep (hid H S) dy vy → g dx dy = some d → (∀ v H2, Ex H H2 → Rep (hid H2 S) d v → Q v H2) → r vx vy H Q
def o2 (g : D → D → Option D) (fa fb : En → Option D) : En → Option D := fun ρ => (fa ρ).bind fun x => (fb ρ).bind fun y => g x y
theorem de_op {op : Operator} {r : R2} {g : D → D → Option D} (hr : RD r g) (ho : OpR X (binaryOp op) r) (ha : PE X a (tD fa)) (hb : PE X b (tD fb)) : PE X (.BinOp a op b pos) (tD (o2 g fa fb)) :=
  PE.imp (pe_op ho ha hb) fun σ H Q h => tD_two h fun S dx dy d vx vy H1 h1 h2 h3 h4 h5 => hr S dx dy d vx vy H1 Q h1 h2 h3 h4 h5
theorem de_cmp {op : CmpOp} {r : R2} {g : D → D → Option D} (hr : RD r g) (ho : OpR X (compareOp op) r) (ha : PE X a (tD fa)) (hb : PE X b (tD fb)) (hm : behindInMarks op b = false) : PE X (.Compare a [op] [b] pos) (tD (o2 g fa fb)) :=
  PE.imp (pe_cmpR ho ha hb hm) fun σ H Q h => tD_two h fun S dx dy d vx vy H1 h1 h2 h3 h4 h5 => hr S dx dy d vx vy H1 Q h1 h2 h3 h4 h5
/-- a value that is True or False, as a test -/
def asB (f : En → Option D) : En → Option Bool := fun ρ => (f ρ).bind fun d => match d with
  | .bl b => some b
  | _ => none
theorem tB_of {f : En → Option D} {σ : L2.St} {H : Hp} {Q : Bool → Hp → Prop} (h : tDT (asB f) σ H Q) : tD f σ H fun x H1 => ∃ k, x = .bl k ∧ Q k H1 := by
  obtain ⟨ρ, S, b, hS, hr, hf, hq⟩ := h
  unfold asB at hf
  cases q : f ρ with
  | none => simp [q] at hf
  | some d =>
    cases d with
    | bl k =>
      simp [q] at hf
      subst hf
      exact ⟨ρ, S, _, hS, hr, q, fun v H1 e1 r1 => ⟨k, r1, hq H1 e1⟩⟩
    | non => simp [q] at hf
    | int _ => simp [q] at hf
    | lst _ => simp [q] at hf
    | tup _ => simp [q] at hf
    | dic _ => simp [q] at hf
    | adr _ _ => simp [q] at hf
theorem dt_val {f : En → Option D} (h : PE X e (tD f)) (he : ∀ whole, isTrue e X.env whole = (do let v ← whole; standAt e.pos; holding [v] (truthy v)) := by intro _; rfl) : PT X e (tDT (asB f)) :=
  PT.imp (pt_val h he) fun σ H Q q => tB_of q
theorem dt_cmp {op : CmpOp} {r : R2} {g : D → D → Option D} (hr : RD r g) (ho : OpR X (compareOp op) r) (ha : PE X a (tD fa)) (hb : PE X b (tD fb)) (hm : behindInMarks op b = false) : PT X (.Compare a [op] [b] pos) (tDT (asB (o2 g fa fb))) :=
  PT.imp (pt_cmpR ho ha hb hm) fun σ H Q q => by
    have h := tB_of q
    exact tD_two h fun S dx dy d vx vy H1 h1 h2 h3 h4 h5 => hr S dx dy d vx vy H1 _ h1 h2 h3 h4 h5
/-- a <= b <= c -/
def chE (g g' : D → D → Option D) (fa fb fc : En → Option D) : En → Option D := fun ρ => (fa ρ).bind fun x => (fb ρ).bind fun y => (g x y).bind fun z => match z with
  | .bl true => (fc ρ).bind fun w => g' y w
  | .bl false => some (.bl false)
  | _ => none
theorem de_chain {op op' : CmpOp} {r r' : R2} {g g' : D → D → Option D} (hr : RD r g) (hr' : RD r' g') (ho : OpR X (compareOp op) r) (ho' : OpR X (compareOp op') r') (ha : PE X a (tD fa)) (hb : PE X b (tD fb)) (hc : PE X c (tD fc)) (hm : lastMarks [op, op'] [b, c] = false := by with_unfolding_all rfl) :
    PE X (.Compare a [op, op'] [b, c] pos) (tD (chE g g' fa fb fc)) := PE.imp (pe_chain ho ho' ha hb hc hm) fun σ H Q h => by
  obtain ⟨ρ, S, d, hS, hp, hf, hq⟩ := h
  unfold chE at hf
  cases ha : fa ρ with
  | none => simp [ha] at hf
  | some dx =>
    cases hb : fb ρ with
    | none => simp [ha, hb] at hf
    | some dy =>
      cases hg : g dx dy with
      | none => simp [ha, hb, hg] at hf
      | some z =>
        simp only [ha, hb, hg, Option.bind_some] at hf
        refine ⟨ρ, S, dx, hS, hp, ha, fun v H1 e1 r1 => ⟨ρ, S, dy, hS.mono e1, hp.mono (hid_mono e1), hb, fun u H2 e2 r2 => ?_⟩⟩
        refine hr S dx dy z v u H2 _ ((hS.mono e1).mono e2) (r1.mono (hid_mono e2)) r2 hg fun x H3 e3 r3 => ?_
        cases z with
        | bl k =>
          refine ⟨k, r3, ?_⟩
          cases k with
          | true =>
            show tD fc σ H3 fun w' H4 => r' u w' H4 Q
            cases hc : fc ρ with
            | none => simp [hc] at hf
            | some dw =>
              simp only [hc, Option.bind_some] at hf
              refine ⟨ρ, S, dw, ((hS.mono e1).mono e2).mono e3, hp.mono (hid_mono ((e1.trans e2).trans e3)), hc, fun w H4 e4 r4 => ?_⟩
              exact hr' S dy dw d u w H4 Q ((((hS.mono e1).mono e2).mono e3).mono e4) ((r2.mono (hid_mono e3)).mono (hid_mono e4)) r4 hf fun y H5 e5 r5 => hq y H5 ((((e1.trans e2).trans e3).trans e4).trans e5) r5
          | false =>
            show Q (.bl false) H3
            cases hf
            exact hq _ H3 ((e1.trans e2).trans e3) rfl
        | non => cases hf
        | int _ => cases hf
        | lst _ => cases hf
        | tup _ => cases hf
        | dic _ => cases hf
        | adr _ _ => cases hf

/-! ### and, or, not, if -/
def tyE : En → Option Bool := fun _ => some true
def andB (t u : En → Option Bool) : En → Option Bool := fun ρ => (t ρ).bind fun k => if k = true then u ρ else some false
def orB (t u : En → Option Bool) : En → Option Bool := fun ρ => (t ρ).bind fun k => if k = true then some true else u ρ
def notB (t : En → Option Bool) : En → Option Bool := fun ρ => (t ρ).map fun k => !k
def blE (t : En → Option Bool) : En → Option D := fun ρ => (t ρ).map D.bl
variable {ft fu : En → Option Bool} {rest : List Expr}
theorem dw_and1 (ha : PT X a (tDT ft)) : PW X (.BoolOp .And [a] pos) (tDT ft) := pw_and1 ha
theorem dw_or1 (ha : PT X a (tDT ft)) : PW X (.BoolOp .Or [a] pos) (tDT ft) := pw_or1 ha
theorem PW.imp {X : Cx} {e : Expr} {t t' : TT} (h : PW X e t) (i : ∀ σ H Q, t' σ H Q → t σ H Q) : PW X e t' := ⟨fun wh pins s σ H Q I q => h.run wh pins s σ H Q I (i σ H Q q)⟩
theorem dw_and (ha : PT X a (tDT ft)) (hb : PW X (.BoolOp .And (b :: rest) pos) (tDT fu)) : PW X (.BoolOp .And (a :: b :: rest) pos) (tDT (andB ft fu)) := PW.imp (pw_and ha hb) fun σ H Q h => by
  obtain ⟨ρ, S, k, hS, hp, hf, hq⟩ := h
  unfold andB at hf
  cases h1 : ft ρ with
  | none => simp [h1] at hf
  | some k1 =>
    simp only [h1, Option.bind_some] at hf
    refine ⟨ρ, S, k1, hS, hp, h1, fun H1 e1 => ?_⟩
    cases k1 with
    | true =>
      show tDT fu σ H1 Q
      exact ⟨ρ, S, k, hS.mono e1, hp.mono (hid_mono e1), hf, fun H2 e2 => hq H2 (e1.trans e2)⟩
    | false =>
      show Q false H1
      cases hf
      exact hq H1 e1
theorem dw_or (ha : PT X a (tDT ft)) (hb : PW X (.BoolOp .Or (b :: rest) pos) (tDT fu)) : PW X (.BoolOp .Or (a :: b :: rest) pos) (tDT (orB ft fu)) := PW.imp (pw_or ha hb) fun σ H Q h => by
  obtain ⟨ρ, S, k, hS, hp, hf, hq⟩ := h
  unfold orB at hf
  cases h1 : ft ρ with
  | none => simp [h1] at hf
  | some k1 =>
    simp only [h1, Option.bind_some] at hf
    refine ⟨ρ, S, k1, hS, hp, h1, fun H1 e1 => ?_⟩
    cases k1 with
    | true =>
      show Q true H1
      cases hf
      exact hq H1 e1
    | false =>
      show tDT fu σ H1 Q
      exact ⟨ρ, S, k, hS.mono e1, hp.mono (hid_mono e1), hf, fun H2 e2 => hq H2 (e1.trans e2)⟩
theorem dt_not (ha : PT X a (tDT ft)) : PT X (.UnaryOp .Not a pos) (tDT (notB ft)) := PT.imp (pt_not ha) fun σ H Q h => by
  obtain ⟨ρ, S, k, hS, hp, hf, hq⟩ := h
  unfold notB at hf
  cases h1 : ft ρ with
  | none => simp [h1] at hf
  | some k1 =>
    simp only [h1, Option.map_some] at hf
    cases hf
    exact ⟨ρ, S, k1, hS, hp, h1, fun H1 e1 => hq H1 e1⟩
/-- .. as values -/
theorem de_one {op} {t : TE} (h : PE X a t) : PE X (.BoolOp op [a] pos) t := pe_one h
theorem de_and (ha : PE X a (tD fa)) (hb : PE X (.BoolOp .And (b :: rest) pos) (tD fb)) : PE X (.BoolOp .And (a :: b :: rest) pos) (tD (blE (andB (asB fa) (asB fb)))) := PE.imp (pe_and ha hb) fun σ H Q h => by
  obtain ⟨ρ, S, d, hS, hp, hf, hq⟩ := h
  unfold blE andB at hf
  cases h1 : asB fa ρ with
  | none => simp [h1] at hf
  | some k1 =>
    simp only [h1, Option.bind_some] at hf
    refine tB_of (Q := fun c H1 => if c = true then tD fb σ H1 Q else Q (.bl false) H1) ⟨ρ, S, k1, hS, hp, h1, fun H1 e1 => ?_⟩
    cases k1 with
    | true =>
      show tD fb σ H1 Q
      simp only [if_true] at hf
      cases h2 : asB fb ρ with
      | none => simp [h2] at hf
      | some k2 =>
        simp only [h2, Option.map_some, Option.some.injEq] at hf
        subst hf
        have z := tB_of (f := fb) (σ := σ) (H := H1) (Q := fun k H2 => Q (.bl k) H2) ⟨ρ, S, k2, hS.mono e1, hp.mono (hid_mono e1), h2, fun H2 e2 => hq _ H2 (e1.trans e2) rfl⟩
        obtain ⟨ρ', S', d', z1, z2, z3, z4⟩ := z
        refine ⟨ρ', S', d', z1, z2, z3, fun v H2 e2 r2 => ?_⟩
        obtain ⟨k, q1, q2⟩ := z4 v H2 e2 r2
        rw [q1]
        exact q2
    | false =>
      show Q (.bl false) H1
      simp at hf
      subst hf
      exact hq _ H1 e1 rfl
theorem de_not (ha : PE X a (tD fa)) : PE X (.UnaryOp .Not a pos) (tD (blE (notB (asB fa)))) := PE.imp (pe_not ha) fun σ H Q h => by
  obtain ⟨ρ, S, d, hS, hp, hf, hq⟩ := h
  unfold blE notB at hf
  cases h1 : asB fa ρ with
  | none => simp [h1] at hf
  | some k1 =>
    simp only [h1, Option.map_some] at hf
    cases hf
    exact tB_of (Q := fun c H1 => Q (.bl (!c)) H1) ⟨ρ, S, k1, hS, hp, h1, fun H1 e1 => hq _ H1 e1 rfl⟩
def ifE (t : En → Option Bool) (fa fb : En → Option D) : En → Option D := fun ρ => (t ρ).bind fun k => if k = true then fa ρ else fb ρ
theorem de_if (hc : PT X c (tDT ft)) (ha : PE X a (tD fa)) (hb : PE X b (tD fb)) : PE X (.IfExp c a b pos) (tD (ifE ft fa fb)) := PE.imp (pe_ifExp hc ha hb) fun σ H Q h => by
  obtain ⟨ρ, S, d, hS, hp, hf, hq⟩ := h
  unfold ifE at hf
  cases h1 : ft ρ with
  | none => simp [h1] at hf
  | some k1 =>
    simp only [h1, Option.bind_some] at hf
    refine ⟨ρ, S, k1, hS, hp, h1, fun H1 e1 => ?_⟩
    cases k1 with
    | true =>
      show tD fa σ H1 Q
      exact ⟨ρ, S, d, hS.mono e1, hp.mono (hid_mono e1), hf, fun v H2 e2 r2 => hq v H2 (e1.trans e2) r2⟩
    | false =>
      show tD fb σ H1 Q
      exact ⟨ρ, S, d, hS.mono e1, hp.mono (hid_mono e1), hf, fun v H2 e2 r2 => hq v H2 (e1.trans e2) r2⟩

/-! ### arguments, displays, calls -/
def nilE : En → Option (List D) := fun _ => some []
def consE (f : En → Option D) (g : En → Option (List D)) : En → Option (List D) := fun ρ => (f ρ).bind fun x => (g ρ).map fun r => x :: r
def starE (f : En → Option D) (g : En → Option (List D)) : En → Option (List D) := fun ρ => (f ρ).bind fun x => (g ρ).bind fun r => match x with
  | .tup xs => some (xs ++ r)
  | .lst xs => some (xs ++ r)
  | _ => none
variable {f : En → Option D} {g : En → Option (List D)} {es : List Expr}
theorem da_nil : PA X [] (tDA nilE) := PA.imp pa_nil fun σ H Q h => by
  obtain ⟨ρ, S, d, hS, hp, hf, hq⟩ := h
  cases hf
  exact hq [] H (Ex.refl H) rfl
theorem da_cons (he : PE X e (tD f)) (hr : PA X es (tDA g)) (hs : starEach (e :: es) X.env = (false, eval e X.env) :: starEach es X.env := by rfl) : PA X (e :: es) (tDA (consE f g)) := PA.imp (pa_cons he hr hs) fun σ H Q h => by
  obtain ⟨ρ, S, ds, hS, hp, hf, hq⟩ := h
  unfold consE at hf
  cases h1 : f ρ with
  | none => simp [h1] at hf
  | some x =>
    cases h2 : g ρ with
    | none => simp [h1, h2] at hf
    | some r =>
      simp only [h1, h2, Option.bind_some, Option.map_some] at hf
      cases hf
      exact ⟨ρ, S, x, hS, hp, h1, fun v H1 e1 r1 => ⟨ρ, S, r, hS.mono e1, hp.mono (hid_mono e1), h2, fun vs H2 e2 r2 => hq _ H2 (e1.trans e2) (.cons (r1.mono (hid_mono e2)) r2)⟩⟩
theorem da_star {p : Pos} (he : PE X e (tD f)) (hr : PA X es (tDA g)) (hs : starEach (.Starred e p :: es) X.env = (true, eval e X.env) :: starEach es X.env := by rfl) : PA X (.Starred e p :: es) (tDA (starE f g)) :=
  PA.imp (StX.pa_star he hr hs) fun σ H Q h => by
  obtain ⟨ρ, S, ds, hS, hp, hf, hq⟩ := h
  unfold starE at hf
  cases h1 : f ρ with
  | none => simp [h1] at hf
  | some x =>
    cases h2 : g ρ with
    | none => simp [h1, h2] at hf
    | some r =>
      simp only [h1, h2, Option.bind_some] at hf
      refine ⟨ρ, S, x, hS, hp, h1, fun v H1 e1 r1 => ?_⟩
      cases x with
      | tup xs =>
        obtain ⟨q, vs, hv, ha, hr1⟩ := r1
        cases hf
        exact ⟨q, vs, hv, .inl (st_of (hid_sub q _ ha)), ρ, S, r, hS.mono e1, hp.mono (hid_mono e1), h2, fun ws H2 e2 r2 => hq _ H2 (e1.trans e2) ((hr1.mono (hid_mono e2)).append r2)⟩
      | lst xs =>
        obtain ⟨q, vs, hv, ha, hr1⟩ := r1
        cases hf
        exact ⟨q, vs, hv, .inr (sq_of (hid_sub q _ ha)), ρ, S, r, hS.mono e1, hp.mono (hid_mono e1), h2, fun ws H2 e2 r2 => hq _ H2 (e1.trans e2) ((hr1.mono (hid_mono e2)).append r2)⟩
      | non => cases hf
      | bl _ => cases hf
      | int _ => cases hf
      | dic _ => cases hf
      | adr _ _ => cases hf
/-- lists up to this length are made -/
def cap : Nat := 100000
theorem cap_le {n : Nat} (h : n ≤ cap) : n ≤ sizeLine := Nat.le_trans h (by decide)
theorem cap_lt {n : Nat} (h : n ≤ cap) : n < sizeLine := Nat.lt_of_le_of_lt h (by decide)
def tupG (ds : List D) : Option D := if ds.length ≤ cap then some (.tup ds) else none
def lstG (ds : List D) : Option D := if ds.length ≤ cap then some (.lst ds) else none
theorem tupG_some {ds : List D} {d : D} (h : tupG ds = some d) : ds.length ≤ cap ∧ d = .tup ds := by
  unfold tupG at h
  split at h
  · cases h
    exact ⟨by assumption, rfl⟩
  · cases h
theorem lstG_some {ds : List D} {d : D} (h : lstG ds = some d) : ds.length ≤ cap ∧ d = .lst ds := by
  unfold lstG at h
  split at h
  · cases h
    exact ⟨by assumption, rfl⟩
  · cases h
theorem new_tup {S : List Addr} {H : Hp} {ds : List D} {vs : List V} {p : Addr} (hS : InD S H) (hn : H p = none) (hr : Reps (hid H S) ds vs) : Rep (hid (upd H p (.tup vs)) S) (.tup ds) (.ref p) :=
  ⟨p, vs, rfl, hid_new hS hn, hr.mono (hid_mono (Ex.new hn))⟩
theorem new_lst {S : List Addr} {H : Hp} {ds : List D} {vs : List V} {p : Addr} (hS : InD S H) (hn : H p = none) (hr : Reps (hid H S) ds vs) : Rep (hid (upd H p (.lst vs)) S) (.lst ds) (.ref p) :=
  ⟨p, vs, rfl, hid_new hS hn, hr.mono (hid_mono (Ex.new hn))⟩
theorem de_tup {x1} (h : PA X es (tDA g)) : PE X (.Tuple es x1 pos) (tD fun ρ => (g ρ).bind tupG) := PE.imp (pe_tup h) fun σ H Q h => tDA_one h fun S ds d vs H1 hS hr hg hq => by
  obtain ⟨hl, rfl⟩ := tupG_some hg
  exact ⟨by rw [hr.len]; exact cap_le hl, fun p hp => hq _ _ (Ex.new hp) (new_tup hS hp hr)⟩
theorem de_lst (h : PA X es (tDA g)) : PE X (.List es pos) (tD fun ρ => (g ρ).bind lstG) := PE.imp (pe_lst h) fun σ H Q h => tDA_one h fun S ds d vs H1 hS hr hg hq => by
  obtain ⟨hl, rfl⟩ := lstG_some hg
  exact ⟨by rw [hr.len]; exact cap_le hl, fun p hp => hq _ _ (Ex.new hp) (new_lst hS hp hr)⟩
/-- a built-in, by data -/
def RC (r : List V → Hp → VK → Prop) (g : List D → Option D) : Prop := ∀ S ds d vs H Q, InD S H → Reps (hid H S) ds vs → g ds = some d → (∀ v H2, Ex H H2 → Rep (hid H2 S) d v → Q v H2) → r vs H Q
def bE (gd : List D → Option D) (g : En → Option (List D)) : En → Option D := fun ρ => (g ρ).bind gd
theorem de_callB {id : String} {x : Str} {p : Pos} {r : List V → Hp → VK → Prop} {gd : List D → Option D} (hr : RC r gd) (hc : CallR X (.builtin id) r) (hg : Gl X x) (hm : X.mg x = none) (hv : bootBuiltins x = some (.builtin id)) (ha : PA X (e :: es) (tDA g)) (hn : x ≠ "__name__" := by decide)
    (hdb : (x == ("__debug__" : Str)) = false := by decide) (he : starEach (e :: es) X.env = (false, eval e X.env) :: starEach es X.env := by rfl) (hpl : (backTo pos (starEach es X.env)).any (·.1) = false := by rfl) : PE X (.Call (.Name x p) (e :: es) [] pos) (tD (bE gd g)) :=
  PE.imp (pe_callB hc hg hm hv ha hn hdb he hpl) fun σ H Q q => tDA_one q fun S ds d vs H1 h1 h2 h3 h4 => hr S ds d vs H1 Q h1 h2 h3 h4
theorem de_callTy {T : String} {x : Str} {p : Pos} {r : List V → Hp → VK → Prop} {gd : List D → Option D} (hr : RC r gd) (hc : CallR X (.type T) r) (hg : Gl X x) (hm : X.mg x = none) (hv : bootBuiltins x = some (.type T)) (ha : PA X (e :: es) (tDA g)) (hn : x ≠ "__name__" := by decide)
    (hdb : (x == ("__debug__" : Str)) = false := by decide) (he : starEach (e :: es) X.env = (false, eval e X.env) :: starEach es X.env := by rfl) (hpl : (backTo pos (starEach es X.env)).any (·.1) = false := by rfl) : PE X (.Call (.Name x p) (e :: es) [] pos) (tD (bE gd g)) :=
  PE.imp (pe_callTy hc hg hm hv ha hn hdb he hpl) fun σ H Q q => tDA_one q fun S ds d vs H1 h1 h2 h3 h4 => hr S ds d vs H1 Q h1 h2 h3 h4
/-- a def's promise by data: n arguments -/
def spD (n : Nat) (gd : List D → Option D) : Sp := fun vs H Q _ => ∃ S ds d, InD S H ∧ Reps (hid H S) ds vs ∧ ds.length = n ∧ gd ds = some d ∧ ∀ v H', Ex H H' → Rep (hid H' S) d v → Q v H'
def callE (n : Nat) (gd : List D → Option D) (g : En → Option (List D)) : En → Option D := fun ρ => (g ρ).bind fun ds => if ds.length = n then gd ds else none
theorem de_call {k j n : Nat} {x : Str} {p : Pos} {gd : List D → Option D} (cc : C8.Cal X.prog X.w X.K X.mg X.base k x (spD n gd) []) (hr : Room j X.A) (hk : k ≤ j) (hg : Gl X x) (ha : PA X (e :: es) (tDA g))
    (hdb : (x == ("__debug__" : Str)) = false := by decide) (he : starEach (e :: es) X.env = (false, eval e X.env) :: starEach es X.env := by rfl) (hpl : (backTo pos (starEach es X.env)).any (·.1) = false := by rfl) :
    PE X (.Call (.Name x p) (e :: es) [] pos) (tD (callE n gd g)) := PE.imp (C8.pe_c cc hr hk hg ha hdb he hpl) fun σ H Q h => tDA_one (g := fun ds => if ds.length = n then gd ds else none) h fun S ds d vs H1 h1 h2 h3 h4 => by
  split at h3
  · rename_i hl
    rw [List.append_nil]
    exact ⟨S, ds, d, h1, h2, hl, h3, h4⟩
  · cases h3
end
end DL
end Part_DL1
section Part_DL2
set_option Elab.async false
set_option linter.all false
set_option maxRecDepth 100000
set_option maxHeartbeats 2000000
set_option autoImplicit false
namespace DL
open PySem PySem.Spec PyProof.Rows L2 Evl

/-! ## operators on whole numbers -/
def iiG (f : Int → Int → D) : D → D → Option D
  | .int i, .int j => some (f i j)
  | _, _ => none
theorem iiG_some {f : Int → Int → D} {x y d : D} (h : iiG f x y = some d) : ∃ i j, x = .int i ∧ y = .int j ∧ d = f i j := by
  unfold iiG at h
  split at h
  · cases h
    exact ⟨_, _, rfl, rfl, rfl⟩
  · cases h
theorem rd_I0 {f : Int → Int → Int} : RD (rI0 fun i j => .int (f i j)) (iiG fun i j => .int (f i j)) := fun S dx dy d vx vy H Q hS h1 h2 hg hq => by
  obtain ⟨i, j, rfl, rfl, rfl⟩ := iiG_some hg
  exact ⟨i, j, h1, h2, hq _ H (Ex.refl H) rfl⟩
theorem rd_B0 {f : Int → Int → Bool} : RD (rI0 fun i j => .bl (f i j)) (iiG fun i j => .bl (f i j)) := fun S dx dy d vx vy H Q hS h1 h2 hg hq => by
  obtain ⟨i, j, rfl, rfl, rfl⟩ := iiG_some hg
  exact ⟨i, j, h1, h2, hq _ H (Ex.refl H) rfl⟩

/-! ## == of data -/
mutual
def toPy : D → PyData
  | .non => .none
  | .bl b => .bool b
  | .int i => .int i
  | .lst ds => .list (toPys ds)
  | .tup ds => .tuple (toPys ds)
  | .dic _ => .none
  | .adr _ _ => .none
def toPys : List D → List PyData
  | [] => []
  | d :: ds => toPy d :: toPys ds
end
mutual
/-- no dict within, and no deeper than n -/
def dOk : Nat → D → Bool
  | _, .non => true
  | _, .bl _ => true
  | _, .int _ => true
  | 0, .lst _ => false
  | 0, .tup _ => false
  | n + 1, .lst ds => dOks n ds
  | n + 1, .tup ds => dOks n ds
  | _, .dic _ => false
  | _, .adr _ _ => false
def dOks : Nat → List D → Bool
  | _, [] => true
  | n, d :: ds => dOk n d && dOks n ds
end
mutual
def deq : D → D → Bool
  | .non, .non => true
  | .bl a, .bl b => a == b
  | .bl a, .int j => (if a then 1 else 0) == j
  | .int i, .bl b => i == (if b then 1 else 0)
  | .int i, .int j => i == j
  | .lst xs, .lst ys => deqs xs ys
  | .tup xs, .tup ys => deqs xs ys
  | .non, .bl _ => false
  | .non, .int _ => false
  | .non, .lst _ => false
  | .non, .tup _ => false
  | .bl _, .non => false
  | .bl _, .lst _ => false
  | .bl _, .tup _ => false
  | .int _, .non => false
  | .int _, .lst _ => false
  | .int _, .tup _ => false
  | .lst _, .non => false
  | .lst _, .bl _ => false
  | .lst _, .int _ => false
  | .lst _, .tup _ => false
  | .tup _, .non => false
  | .tup _, .bl _ => false
  | .tup _, .int _ => false
  | .tup _, .lst _ => false
  | .dic _, _ => false
  | .non, .dic _ => false
  | .bl _, .dic _ => false
  | .int _, .dic _ => false
  | .lst _, .dic _ => false
  | .tup _, .dic _ => false
  | .adr _ _, _ => false
  | .non, .adr _ _ => false
  | .bl _, .adr _ _ => false
  | .int _, .adr _ _ => false
  | .lst _, .adr _ _ => false
  | .tup _, .adr _ _ => false
def deqs : List D → List D → Bool
  | [], [] => true
  | x :: xs, y :: ys => deq x y && deqs xs ys
  | [], _ :: _ => false
  | _ :: _, [] => false
end
mutual
theorem dOk_lay : ∀ (n : Nat) (d : D), dOk n d = true → (toPy d).canLay0 = true ∧ (toPy d).depth ≤ n
  | _, .non, _ => ⟨by simp [toPy, PyData.canLay0], by simp [toPy, PyData.depth]⟩
  | _, .bl _, _ => ⟨by simp [toPy, PyData.canLay0], by simp [toPy, PyData.depth]⟩
  | _, .int _, _ => ⟨by simp [toPy, PyData.canLay0], by simp [toPy, PyData.depth]⟩
  | 0, .lst _, h => by simp [dOk] at h
  | 0, .tup _, h => by simp [dOk] at h
  | n + 1, .lst ds, h => by
    have q := dOks_lay n ds (by simpa [dOk] using h)
    refine ⟨by simpa [toPy, PyData.canLay0] using q.1, ?_⟩
    simp only [toPy, PyData.depth]
    omega
  | n + 1, .tup ds, h => by
    have q := dOks_lay n ds (by simpa [dOk] using h)
    refine ⟨by simpa [toPy, PyData.canLay0] using q.1, ?_⟩
    simp only [toPy, PyData.depth]
    omega
  | _, .dic _, h => by simp [dOk] at h
theorem dOks_lay : ∀ (n : Nat) (ds : List D), dOks n ds = true → PyData.canLayAll0 (toPys ds) = true ∧ PyData.depthAll (toPys ds) ≤ n
  | _, [], _ => ⟨by simp [toPys, PyData.canLayAll0], by simp [toPys, PyData.depthAll]⟩
  | n, d :: ds, h => by
    have h' : dOk n d = true ∧ dOks n ds = true := by simpa [dOks] using h
    have q1 := dOk_lay n d h'.1
    have q2 := dOks_lay n ds h'.2
    refine ⟨by simp [toPys, PyData.canLayAll0, q1.1, q2.1], ?_⟩
    simp only [toPys, PyData.depthAll]
    omega
end
mutual
theorem deq_py : ∀ (n : Nat) (x y : D), dOk n x = true → dOk n y = true → PyData.eqv (toPy x) (toPy y) = deq x y
  | n, .non, y, _, h => by cases y <;> simp [toPy, PyData.eqv, deq, dOk] at *
  | n, .bl _, y, _, h => by cases y <;> simp [toPy, PyData.eqv, deq, dOk] at *
  | n, .int _, y, _, h => by cases y <;> simp [toPy, PyData.eqv, deq, dOk] at *
  | n, .lst xs, y, h1, h => by
    cases y with
    | lst ys =>
      cases n with
      | zero => simp [dOk] at h
      | succ n =>
        simp only [toPy, PyData.eqv, deq]
        exact deqs_py n xs ys (by simpa [dOk] using h1) (by simpa [dOk] using h)
    | _ => simp [toPy, PyData.eqv, deq, dOk] at *
  | n, .tup xs, y, h1, h => by
    cases y with
    | tup ys =>
      cases n with
      | zero => simp [dOk] at h
      | succ n =>
        simp only [toPy, PyData.eqv, deq]
        exact deqs_py n xs ys (by simpa [dOk] using h1) (by simpa [dOk] using h)
    | _ => simp [toPy, PyData.eqv, deq, dOk] at *
  | _, .dic _, _, h, _ => by simp [dOk] at h
theorem deqs_py : ∀ (n : Nat) (xs ys : List D), dOks n xs = true → dOks n ys = true → PyData.eqvAll (toPys xs) (toPys ys) = deqs xs ys
  | _, [], [], _, _ => by simp [toPys, PyData.eqvAll, deqs]
  | _, [], _ :: _, _, _ => by simp [toPys, PyData.eqvAll, deqs]
  | _, _ :: _, [], _, _ => by simp [toPys, PyData.eqvAll, deqs]
  | n, x :: xs, y :: ys, h1, h2 => by
    have a1 : dOk n x = true ∧ dOks n xs = true := by simpa [dOks] using h1
    have a2 : dOk n y = true ∧ dOks n ys = true := by simpa [dOks] using h2
    simp only [toPys, PyData.eqvAll, deqs, deq_py n x y a1.1 a2.1, deqs_py n xs ys a1.2 a2.2]
end
mutual
theorem dp_of {K : PySem.W.Frag} {H : Hp} : ∀ (n : Nat) (d : D) (v : V), dOk n d = true → Rep H d v → Dp K H v (toPy d)
  | _, .non, _, _, h => by cases (show _ = V.non from h); simp only [toPy]; exact .non
  | _, .bl b, _, _, h => by cases (show _ = V.bl b from h); simp only [toPy]; exact .bl b
  | _, .int i, _, _, h => by cases (show _ = V.int i from h); simp only [toPy]; exact .int i
  | 0, .lst _, _, o, _ => by simp [dOk] at o
  | 0, .tup _, _, o, _ => by simp [dOk] at o
  | n + 1, .lst ds, _, o, ⟨a, xs, hv, ha, hr⟩ => by
    subst hv
    simp only [toPy]
    exact .lst (sq_of ha) (dps_of n ds xs (by simpa [dOk] using o) hr)
  | n + 1, .tup ds, _, o, ⟨a, xs, hv, ha, hr⟩ => by
    subst hv
    simp only [toPy]
    exact .tup (st_of ha) (dps_of n ds xs (by simpa [dOk] using o) hr)
  | _, .dic _, _, o, _ => by simp [dOk] at o
theorem dps_of {K : PySem.W.Frag} {H : Hp} : ∀ (n : Nat) (ds : List D) (vs : List V), dOks n ds = true → Reps H ds vs → DpAll K H vs (toPys ds)
  | _, [], _, _, h => by
    cases (show _ = [] from h)
    simp only [toPys]
    exact .nil
  | n, d :: ds, _, o, ⟨x, r, hv, h1, h2⟩ => by
    subst hv
    have a1 : dOk n d = true ∧ dOks n ds = true := by simpa [dOks] using o
    simp only [toPys]
    exact .cons (dp_of n d x a1.1 h1) (dps_of n ds r a1.2 h2)
end
theorem shaped_of {d : D} (h : dOk 60 d = true) : SeqAt.shaped (toPy d) = true := by
  obtain ⟨h1, h2⟩ := dOk_lay 60 d h
  unfold SeqAt.shaped
  rw [h1, Bool.true_and]
  exact decide_eq_true (by omega)
def eqG : D → D → Option D := fun x y => if dOk 60 x && dOk 60 y then some (.bl (deq x y)) else none
def neG : D → D → Option D := fun x y => if dOk 60 x && dOk 60 y then some (.bl (!deq x y)) else none
theorem rd_eq {K : PySem.W.Frag} : RD (rEqD K) eqG := fun S dx dy d vx vy H Q hS h1 h2 hg hq => by
  unfold eqG at hg
  split at hg
  · rename_i ho
    have o : dOk 60 dx = true ∧ dOk 60 dy = true := by simpa using ho
    cases hg
    refine ⟨toPy dx, toPy dy, dp_of 60 dx vx o.1 (h1.mono hid_sub), dp_of 60 dy vy o.2 (h2.mono hid_sub), shaped_of o.1, shaped_of o.2, ?_⟩
    rw [deq_py 60 dx dy o.1 o.2]
    exact hq _ H (Ex.refl H) rfl
  · cases hg
theorem rd_ne {K : PySem.W.Frag} : RD (rNeD K) neG := fun S dx dy d vx vy H Q hS h1 h2 hg hq => by
  unfold neG at hg
  split at hg
  · rename_i ho
    have o : dOk 60 dx = true ∧ dOk 60 dy = true := by simpa using ho
    cases hg
    refine ⟨toPy dx, toPy dy, dp_of 60 dx vx o.1 (h1.mono hid_sub), dp_of 60 dy vy o.2 (h2.mono hid_sub), shaped_of o.1, shaped_of o.2, ?_⟩
    rw [deq_py 60 dx dy o.1 o.2]
    exact hq _ H (Ex.refl H) rfl
  · cases hg

/-! ## in, not in: whole numbers in a list or tuple of such -/
def intsOf : List D → Option (List Int)
  | [] => some []
  | .int i :: r => (intsOf r).map fun l => i :: l
  | _ :: _ => none
theorem intsOf_some : ∀ {ds : List D} {ns : List Int}, intsOf ds = some ns → ds = ns.map D.int
  | [], ns, h => by
    simp only [intsOf, Option.some.injEq] at h
    subst h
    rfl
  | d :: r, ns, h => by
    cases d with
    | int i =>
      simp only [intsOf] at h
      cases q : intsOf r with
      | none => simp [q] at h
      | some l =>
        simp only [q, Option.map_some, Option.some.injEq] at h
        subst h
        rw [intsOf_some q]
        rfl
    | _ => simp [intsOf] at h
theorem intsOf_map : ∀ ns : List Int, intsOf (ns.map D.int) = some ns
  | [] => rfl
  | n :: r => by
    rw [List.map_cons]
    simp only [intsOf, intsOf_map r, Option.map_some]
theorem reps_ints {H : Hp} : ∀ {ns : List Int} {vs : List V}, Reps H (ns.map D.int) vs → vs = ns.map V.int
  | [], _, h => h
  | n :: r, _, ⟨x, t, hv, h1, h2⟩ => by
    subst hv
    rw [List.map_cons, reps_ints h2]
    cases (show x = V.int n from h1)
    rfl
theorem ints_reps {H : Hp} : ∀ (ns : List Int), Reps H (ns.map D.int) (ns.map V.int)
  | [] => rfl
  | n :: r => ⟨.int n, _, rfl, rfl, ints_reps r⟩
theorem inV_ints (i : Int) : ∀ ns : List Int, inV (.int i) (ns.map V.int) = decide (i ∈ ns)
  | [] => by simp [inV]
  | n :: r => by
    have ih := inV_ints i r
    unfold inV at ih ⊢
    rw [List.map_cons, List.any_cons, ih]
    simp only [eqV, List.mem_cons]
    by_cases h : i = n
    · subst h
      simp
    · simp [h, Ne.symm h]
theorem flat_ints : ∀ ns : List Int, (ns.map V.int).all flatV = true
  | [] => rfl
  | n :: r => by
    rw [List.map_cons, List.all_cons, flat_ints r]
    rfl
def itemsD : D → Option (List D)
  | .lst ds => some ds
  | .tup ds => some ds
  | _ => none
def inG (neg : Bool) : D → D → Option D := fun x y => match x with
  | .int i => (itemsD y).bind fun ds => (intsOf ds).map fun ns => D.bl (if neg then !decide (i ∈ ns) else decide (i ∈ ns))
  | _ => none
theorem rd_in {K : PySem.W.Frag} {neg : Bool} : RD (rIn K neg) (inG neg) := fun S dx dy d vx vy H Q hS h1 h2 hg hq => by
  unfold inG at hg
  cases dx with
  | int i =>
    cases hi : itemsD dy with
    | none => simp [hi] at hg
    | some ds =>
      cases hn : intsOf ds with
      | none => simp [hi, hn] at hg
      | some ns =>
        simp only [hi, hn, Option.bind_some, Option.map_some, Option.some.injEq] at hg
        subst hg
        have e := intsOf_some hn
        cases (show vx = V.int i from h1)
        cases dy with
        | lst ds' =>
          simp only [itemsD, Option.some.injEq] at hi
          subst hi e
          obtain ⟨a, xs, hv, ha, hr⟩ := h2
          cases reps_ints hr
          refine ⟨a, _, hv, .inl (sq_of (hid_sub a _ ha)), rfl, flat_ints ns, ?_⟩
          rw [inV_ints]
          exact hq _ H (Ex.refl H) rfl
        | tup ds' =>
          simp only [itemsD, Option.some.injEq] at hi
          subst hi e
          obtain ⟨a, xs, hv, ha, hr⟩ := h2
          cases reps_ints hr
          refine ⟨a, _, hv, .inr (st_of (hid_sub a _ ha)), rfl, flat_ints ns, ?_⟩
          rw [inV_ints]
          exact hq _ H (Ex.refl H) rfl
        | _ => simp [itemsD] at hi
  | _ => simp at hg

/-! ## subscripts, slices -/
def ixG : D → D → Option D := fun x y => (itemsD x).bind fun ds => match y with
  | .int i => atI ds i
  | _ => none
theorem atI_reps {H : Hp} {ds : List D} {vs : List V} {i : Int} {d : D} (hr : Reps H ds vs) (h : atI ds i = some d) : ∃ v, atI vs i = some v ∧ Rep H d v := by
  unfold atI at h ⊢
  rw [hr.len]
  cases q : ixN ds.length i with
  | none => simp [q] at h
  | some j =>
    simp only [q, Option.bind_some] at h ⊢
    exact hr.get h
def rIxLT (K : PySem.W.Frag) : R2 := fun x y H Q => rIxL K x y H Q ∨ rIxT K x y H Q
theorem ix_lt {X : Cx} : IxR X (rIxLT X.K) := IxR.or ix_list ix_tup
theorem rd_ix {K : PySem.W.Frag} : RD (rIxLT K) ixG := fun S dx dy d vx vy H Q hS h1 h2 hg hq => by
  unfold ixG at hg
  cases hi : itemsD dx with
  | none => simp [hi] at hg
  | some ds =>
    simp only [hi, Option.bind_some] at hg
    cases dy with
    | int i =>
      have hv2 : vy = V.int i := h2
      cases dx with
      | lst ds' =>
        simp only [itemsD, Option.some.injEq] at hi
        subst hi
        obtain ⟨a, xs, hv, ha, hr⟩ := h1
        obtain ⟨v, g1, g2⟩ := atI_reps hr hg
        exact .inl ⟨a, xs, i, v, hv, hv2, sq_of (hid_sub a _ ha), g1, hq v H (Ex.refl H) g2⟩
      | tup ds' =>
        simp only [itemsD, Option.some.injEq] at hi
        subst hi
        obtain ⟨a, xs, hv, ha, hr⟩ := h1
        obtain ⟨v, g1, g2⟩ := atI_reps hr hg
        exact .inr ⟨a, xs, i, v, hv, hv2, st_of (hid_sub a _ ha), g1, hq v H (Ex.refl H) g2⟩
      | _ => simp [itemsD] at hi
    | _ => simp at hg
section
variable {X : Cx} {a b c e : Expr} {fa fb fc : En → Option D} {pos p2 : Pos}
theorem de_ix (ha : PE X a (tD fa)) (hb : PE X b (tD fb)) (hs : PlainIx b := by first | exact fun _ _ => rfl | rfl) : PE X (.Subscript a b pos) (tD (o2 ixG fa fb)) :=
  PE.imp (pe_ix ix_lt ha hb hs) fun σ H Q h => tD_two h fun S dx dy d vx vy H1 h1 h2 h3 h4 h5 => rd_ix S dx dy d vx vy H1 Q h1 h2 h3 h4 h5
/-- d[k] -/
def lookG : D → D → Option D := fun x y => match x, y with
  | .dic kvs, .int i => (kvs.lookup i).map D.int
  | _, _ => none
theorem valV_dkv (i : Int) : ∀ kvs : List (Int × Int), valV (dkv kvs) (Sum.inl i : Key) = (kvs.lookup i).map V.int
  | [] => rfl
  | (k, v) :: r => by
    have ih := valV_dkv i r
    unfold dkv at ih ⊢
    rw [List.map_cons, List.lookup_cons]
    by_cases h : k = i
    · subst h
      rw [valV_pos rfl]
      simp
    · rw [valV_neg (fun z => h (Sum.inl.inj z)), ih]
      have : (i == k) = false := by simp [Ne.symm h]
      rw [this]
theorem de_look (hu : X.A.units + 1 < cLine) (ha : PE X a (tD fa)) (hb : PE X b (tD fb)) (hs : NoSl b := by first | exact fun _ _ => rfl | rfl) : PE X (.Subscript a b pos) (tD (o2 lookG fa fb)) :=
  PE.imp (pe_dget hu ha hb hs) fun σ H Q h => tD_two h fun S dx dy d vx vy H1 h1 h2 h3 h4 h5 => by
    unfold lookG at h4
    cases dx with
    | dic kvs =>
      cases dy with
      | int i =>
        obtain ⟨p, hv, hp⟩ := h2
        simp only at h4
        cases q : kvs.lookup i with
        | none => simp [q] at h4
        | some j =>
          simp only [q, Option.map_some, Option.some.injEq] at h4
          subst h4
          refine ⟨p, .int j, hv, ?_, h5 _ H1 (Ex.refl H1) rfl⟩
          cases (show vy = V.int i from h3)
          have g := DGet.k (k := (Sum.inl i : Key)) (hid_sub p _ hp)
          rw [valV_dkv, q] at g
          exact g
      | _ => simp at h4
    | _ => simp at h4
/-- t[lo:hi] of a tuple -/
def cutD (xs : List D) (lo hi : Option Int) : List D := (xs.drop (HT.sIx xs.length 0 lo)).take (HT.sIx xs.length xs.length hi - HT.sIx xs.length 0 lo)
theorem reps_cut {H : Hp} {ds : List D} {vs : List V} (lo hi : Option Int) (h : Reps H ds vs) : Reps H (cutD ds lo hi) (cutV vs lo hi) := by
  unfold cutD cutV
  rw [h.len]
  exact (h.drop _).take _
def tDO (f : En → Option (Option Int)) : TO := fun σ H Q => ∃ ρ S o, InD S H ∧ RepS (hid H S) σ ρ ∧ f ρ = some o ∧ ∀ H', Ex H H' → Q o H'
theorem PO.imp {X : Cx} {e : Option Expr} {t t' : TO} (h : PO X e t) (i : ∀ σ H Q, t' σ H Q → t σ H Q) : PO X e t' := ⟨fun pins s σ H Q I q => h.run pins s σ H Q I (i σ H Q q)⟩
theorem do_none : PO X none (tDO fun _ => some none) := PO.imp po_none fun σ H Q ⟨ρ, S, o, h1, h2, h3, h4⟩ => by
  cases h3
  exact h4 H (Ex.refl H)
def partE (f : En → Option D) : En → Option (Option Int) := fun ρ => (f ρ).bind fun d => match d with
  | .int i => some (some i)
  | _ => none
theorem do_some (h : PE X e (tD fa)) : PO X (some e) (tDO (partE fa)) := PO.imp (po_some h) fun σ H Q ⟨ρ, S, o, h1, h2, h3, h4⟩ => by
  unfold partE at h3
  cases q : fa ρ with
  | none => simp [q] at h3
  | some d =>
    cases d with
    | int i =>
      simp only [q, Option.bind_some, Option.some.injEq] at h3
      subst h3
      exact ⟨ρ, S, .int i, h1, h2, q, fun v H' e1 r1 => ⟨i, r1, h4 H' e1⟩⟩
    | _ => simp [q] at h3
def slE (f : En → Option D) (fl fh : En → Option (Option Int)) : En → Option D := fun ρ => (f ρ).bind fun d => (fl ρ).bind fun lo => (fh ρ).bind fun hi => match d with
  | .tup ds => some (.tup (cutD ds lo hi))
  | _ => none
theorem de_slT {lo hi : Option Expr} {fl fh : En → Option (Option Int)} (he : PE X e (tD fa)) (hl : PO X lo (tDO fl)) (hh : PO X hi (tDO fh)) : PE X (.Subscript e (.Slice lo hi none p2) pos) (tD (slE fa fl fh)) :=
  PE.imp (pe_slice sl_tupA he hl hh) fun σ H Q ⟨ρ, S, d, hS, hp, hf, hq⟩ => by
    unfold slE at hf
    cases q1 : fa ρ with
    | none => simp [q1] at hf
    | some dx =>
      cases q2 : fl ρ with
      | none => simp [q1, q2] at hf
      | some l =>
        cases q3 : fh ρ with
        | none => simp [q1, q2, q3] at hf
        | some u =>
          simp only [q1, q2, q3, Option.bind_some] at hf
          cases dx with
          | tup ds =>
            simp only [Option.some.injEq] at hf
            subst hf
            refine ⟨ρ, S, .tup ds, hS, hp, q1, fun v H1 e1 r1 => ⟨ρ, S, l, hS.mono e1, hp.mono (hid_mono e1), q2, fun H2 e2 => ⟨ρ, S, u, (hS.mono e1).mono e2, hp.mono (hid_mono (e1.trans e2)), q3, fun H3 e3 => ?_⟩⟩⟩
            obtain ⟨a, xs, hv, ha, hr⟩ := r1
            have e13 := e2.trans e3
            refine ⟨a, xs, hv, st_of (e13 a _ (hid_sub a _ ha)), fun hw => ?_, fun _ p hp => ?_⟩
            · refine hq _ H3 (e1.trans e13) ⟨a, xs, rfl, hid_mono e13 a _ ha, ?_⟩
              have hl : ds.length = xs.length := hr.len.symm
              have ec : cutD ds l u = ds := by
                unfold cutD
                rw [hl, hw.1, hw.2, ← hl]
                simp
              rw [ec]
              exact hr.mono (hid_mono e13)
            · have hr3 := hr.mono (hid_mono e13)
              exact hq _ _ ((e1.trans e13).trans (Ex.new hp)) (new_tup (((hS.mono e1).mono e2).mono e3) hp (reps_cut l u hr3))
          | _ => simp at hf

/-! ## joining -/
def catTG : D → D → Option D := fun x y => match x, y with
  | .tup xs, .tup ys => if xs.length + ys.length ≤ cap then some (.tup (xs ++ ys)) else none
  | _, _ => none
theorem rd_catT {K : PySem.W.Frag} : RD (rCatA K) catTG := fun S dx dy d vx vy H Q hS h1 h2 hg hq => by
  unfold catTG at hg
  cases dx with
  | tup xs =>
    cases dy with
    | tup ys =>
      simp only at hg
      split at hg
      · rename_i hl
        cases hg
        obtain ⟨a, vs, hv, ha, hr⟩ := h1
        obtain ⟨b, ws, hw, hb, hr2⟩ := h2
        refine ⟨a, b, vs, ws, hv, hw, st_of (hid_sub a _ ha), st_of (hid_sub b _ hb), by rw [hr.len, hr2.len]; exact cap_le hl, fun z => ?_, fun _ z => ?_, fun _ _ p hp => ?_⟩
        · subst z
          have hz : xs = [] := List.length_eq_zero_iff.mp (by rw [← hr.len]; rfl)
          subst hz
          exact hq _ H (Ex.refl H) ⟨b, ws, rfl, hb, hr2⟩
        · subst z
          have hz : ys = [] := List.length_eq_zero_iff.mp (by rw [← hr2.len]; rfl)
          subst hz
          exact hq _ H (Ex.refl H) ⟨a, vs, rfl, ha, by rw [List.append_nil]; exact hr⟩
        · exact hq _ _ (Ex.new hp) (new_tup hS hp (hr.append hr2))
      · cases hg
    | _ => simp at hg
  | _ => simp at hg
def catLG : D → D → Option D := fun x y => match x, y with
  | .lst xs, .lst ys => if xs.length + ys.length ≤ cap then some (.lst (xs ++ ys)) else none
  | _, _ => none
theorem rd_catL : RD rCat catLG := fun S dx dy d vx vy H Q hS h1 h2 hg hq => by
  unfold catLG at hg
  cases dx with
  | lst xs =>
    cases dy with
    | lst ys =>
      simp only at hg
      split at hg
      · rename_i hl
        cases hg
        obtain ⟨a, vs, hv, ha, hr⟩ := h1
        obtain ⟨b, ws, hw, hb, hr2⟩ := h2
        exact ⟨a, b, vs, ws, hv, hw, hid_sub a _ ha, hid_sub b _ hb, by rw [hr.len, hr2.len]; exact cap_le hl, fun p hp => hq _ _ (Ex.new hp) (new_lst hS hp (hr.append hr2))⟩
      · cases hg
    | _ => simp at hg
  | _ => simp at hg
end

/-! ## built-ins -/
def boolsOf : List D → Option (List Bool)
  | [] => some []
  | .bl i :: r => (boolsOf r).map fun l => i :: l
  | _ :: _ => none
theorem reps_bools {H : Hp} : ∀ {ds : List D} {bs : List Bool} {vs : List V}, boolsOf ds = some bs → Reps H ds vs → vs = bs.map V.bl
  | [], bs, vs, h, r => by
    simp only [boolsOf, Option.some.injEq] at h
    subst h
    exact r
  | d :: ds, bs, vs, h, ⟨x, t, hv, h1, h2⟩ => by
    subst hv
    cases d with
    | bl b =>
      simp only [boolsOf] at h
      cases q : boolsOf ds with
      | none => simp [q] at h
      | some l =>
        simp only [q, Option.map_some, Option.some.injEq] at h
        subst h
        rw [List.map_cons, ← reps_bools q h2]
        cases (show x = V.bl b from h1)
        rfl
    | _ => simp [boolsOf] at h
def allG : List D → Option D
  | [.lst ds] => (boolsOf ds).map fun bs => D.bl (bs.all id)
  | _ => none
def anyG : List D → Option D
  | [.lst ds] => (boolsOf ds).map fun bs => D.bl (bs.any id)
  | _ => none
theorem rc_any {K : PySem.W.Frag} : RC (rAny K) anyG := fun S ds d vs H Q hS hr hg hq => by
  unfold anyG at hg
  split at hg
  · rename_i l
    cases q : boolsOf l with
    | none => simp [q] at hg
    | some bs =>
      simp only [q, Option.map_some, Option.some.injEq] at hg
      subst hg
      obtain ⟨x, t, hv, ⟨a, xs, hx, ha, hxs⟩, ht⟩ := hr
      cases (show t = [] from ht)
      subst hv hx
      cases reps_bools q hxs
      exact ⟨a, bs, rfl, sq_of (hid_sub a _ ha), hq _ H (Ex.refl H) rfl⟩
  · cases hg
theorem rc_all {K : PySem.W.Frag} : RC (rAll K) allG := fun S ds d vs H Q hS hr hg hq => by
  unfold allG at hg
  split at hg
  · rename_i l
    cases q : boolsOf l with
    | none => simp [q] at hg
    | some bs =>
      simp only [q, Option.map_some, Option.some.injEq] at hg
      subst hg
      obtain ⟨x, t, hv, ⟨a, xs, hx, ha, hxs⟩, ht⟩ := hr
      cases (show t = [] from ht)
      subst hv hx
      cases reps_bools q hxs
      exact ⟨a, bs, rfl, sq_of (hid_sub a _ ha), hq _ H (Ex.refl H) rfl⟩
  · cases hg
def lenG : List D → Option D
  | [.lst ds] => some (.int ds.length)
  | [.tup ds] => some (.int ds.length)
  | _ => none
theorem rc_len {K : PySem.W.Frag} : RC (fun xs H Q => ∃ p ys, xs = [.ref p] ∧ (SqL K H p ys ∨ SqT K H p ys) ∧ Q (.int ys.length) H) lenG := fun S ds d vs H Q hS hr hg hq => by
  unfold lenG at hg
  split at hg
  · cases hg
    obtain ⟨x, t, hv, ⟨a, xs, hx, ha, hxs⟩, ht⟩ := hr
    cases (show t = [] from ht)
    subst hv hx
    refine ⟨a, xs, rfl, .inl (sq_of (hid_sub a _ ha)), ?_⟩
    rw [hxs.len]
    exact hq _ H (Ex.refl H) rfl
  · cases hg
    obtain ⟨x, t, hv, ⟨a, xs, hx, ha, hxs⟩, ht⟩ := hr
    cases (show t = [] from ht)
    subst hv hx
    refine ⟨a, xs, rfl, .inr (st_of (hid_sub a _ ha)), ?_⟩
    rw [hxs.len]
    exact hq _ H (Ex.refl H) rfl
  · cases hg
def tupleG : List D → Option D
  | [.lst ds] => some (.tup ds)
  | [.tup ds] => some (.tup ds)
  | _ => none
theorem rc_tuple {K : PySem.W.Frag} : RC (fun xs H Q => ∃ p ys, xs = [.ref p] ∧ ((SqL K H p ys ∧ ∀ l, H l = none → Q (.ref l) (upd H l (.tup ys))) ∨ (SqT K H p ys ∧ Q (.ref p) H))) tupleG := fun S ds d vs H Q hS hr hg hq => by
  unfold tupleG at hg
  split at hg
  · cases hg
    obtain ⟨x, t, hv, ⟨a, xs, hx, ha, hxs⟩, ht⟩ := hr
    cases (show t = [] from ht)
    subst hv hx
    exact ⟨a, xs, rfl, .inl ⟨sq_of (hid_sub a _ ha), fun l hl => hq _ _ (Ex.new hl) (new_tup hS hl hxs)⟩⟩
  · cases hg
    obtain ⟨x, t, hv, ⟨a, xs, hx, ha, hxs⟩, ht⟩ := hr
    cases (show t = [] from ht)
    subst hv hx
    exact ⟨a, xs, rfl, .inr ⟨st_of (hid_sub a _ ha), hq _ H (Ex.refl H) ⟨a, xs, rfl, ha, hxs⟩⟩⟩
  · cases hg
def listG : List D → Option D
  | [.lst ds] => some (.lst ds)
  | [.tup ds] => some (.lst ds)
  | _ => none
theorem rc_list {K : PySem.W.Frag} : RC (fun xs H Q => ∃ p ys, xs = [.ref p] ∧ (SqL K H p ys ∨ SqT K H p ys) ∧ ∀ l, H l = none → Q (.ref l) (upd H l (.lst ys))) listG := fun S ds d vs H Q hS hr hg hq => by
  unfold listG at hg
  split at hg
  · cases hg
    obtain ⟨x, t, hv, ⟨a, xs, hx, ha, hxs⟩, ht⟩ := hr
    cases (show t = [] from ht)
    subst hv hx
    exact ⟨a, xs, rfl, .inl (sq_of (hid_sub a _ ha)), fun l hl => hq _ _ (Ex.new hl) (new_lst hS hl hxs)⟩
  · cases hg
    obtain ⟨x, t, hv, ⟨a, xs, hx, ha, hxs⟩, ht⟩ := hr
    cases (show t = [] from ht)
    subst hv hx
    exact ⟨a, xs, rfl, .inr (st_of (hid_sub a _ ha)), fun l hl => hq _ _ (Ex.new hl) (new_lst hS hl hxs)⟩
  · cases hg
/-- sorted of whole numbers -/
def ins (n : Int) : List Int → List Int
  | [] => [n]
  | m :: r => if n ≤ m then n :: m :: r else m :: ins n r
def isort : List Int → List Int
  | [] => []
  | n :: r => ins n (isort r)
theorem ins_perm (n : Int) : ∀ l : List Int, (ins n l).Perm (n :: l)
  | [] => .refl _
  | m :: r => by
    unfold ins
    split
    · exact .refl _
    · exact (List.Perm.cons m (ins_perm n r)).trans (List.Perm.swap n m r)
theorem isort_perm : ∀ l : List Int, (isort l).Perm l
  | [] => .refl _
  | n :: r => (ins_perm n (isort r)).trans (List.Perm.cons n (isort_perm r))
theorem ins_up (n : Int) : ∀ {l : List Int}, l.Pairwise (· ≤ ·) → (ins n l).Pairwise (· ≤ ·)
  | [], _ => by simp [ins]
  | m :: r, h => by
    rw [List.pairwise_cons] at h
    unfold ins
    split
    · rename_i hn
      rw [List.pairwise_cons, List.pairwise_cons]
      refine ⟨fun x hx => ?_, h.1, h.2⟩
      rcases List.mem_cons.mp hx with e | hx
      · rw [e]; exact hn
      · exact Int.le_trans hn (h.1 x hx)
    · rename_i hn
      rw [List.pairwise_cons]
      refine ⟨fun x hx => ?_, ins_up n h.2⟩
      rcases List.mem_cons.mp ((ins_perm n r).mem_iff.mp hx) with e | hx
      · rw [e]; omega
      · exact h.1 x hx
theorem isort_up : ∀ l : List Int, (isort l).Pairwise (· ≤ ·)
  | [] => .nil
  | n :: r => ins_up n (isort_up r)
theorem up_uniq : ∀ {a b : List Int}, a.Perm b → a.Pairwise (· ≤ ·) → b.Pairwise (· ≤ ·) → a = b
  | [], b, p, _, _ => (List.Perm.nil_eq p)
  | x :: a, [], p, _, _ => by
    have := p.length_eq
    simp at this
  | x :: a, y :: b, p, h1, h2 => by
    rw [List.pairwise_cons] at h1 h2
    have hxy : x = y := by
      have m1 : x ∈ y :: b := p.mem_iff.mp (List.mem_cons_self ..)
      have m2 : y ∈ x :: a := p.mem_iff.mpr (List.mem_cons_self ..)
      rcases List.mem_cons.mp m1 with e | m1
      · exact e
      · rcases List.mem_cons.mp m2 with e | m2
        · exact e.symm
        · have a1 := h1.1 y m2
          have a2 := h2.1 x m1
          omega
    subst hxy
    rw [up_uniq ((List.perm_cons x).mp p) h1.2 h2.2]
def sortG : List D → Option D
  | [.lst ds] => (intsOf ds).map fun ns => D.lst ((isort ns).map D.int)
  | _ => none
theorem rc_sort {K : PySem.W.Frag} : RC (rSortedI K) sortG := fun S ds d vs H Q hS hr hg hq => by
  unfold sortG at hg
  split at hg
  · rename_i l
    cases q : intsOf l with
    | none => simp [q] at hg
    | some ns =>
      simp only [q, Option.map_some, Option.some.injEq] at hg
      subst hg
      obtain ⟨x, t, hv, ⟨a, xs, hx, ha, hxs⟩, ht⟩ := hr
      cases (show t = [] from ht)
      subst hv hx
      rw [intsOf_some q] at hxs
      cases reps_ints hxs
      refine ⟨a, ns, rfl, sq_of (hid_sub a _ ha), fun ns' p hp hu hn => ?_⟩
      have e : ns' = isort ns := up_uniq (hp.trans (isort_perm ns).symm) hu (isort_up ns)
      subst e
      exact hq _ _ (Ex.new hn) (new_lst hS hn (ints_reps _))
  · cases hg
end DL
end Part_DL2
section Part_DL3
set_option Elab.async false
set_option linter.all false
set_option maxRecDepth 100000
set_option maxHeartbeats 2000000
set_option autoImplicit false
namespace DL
open PySem PySem.Spec PyProof.Rows L2 Evl

/-! ## what is walked -/
/-- the iterator J gives the data ds, while what B shows stands -/
def WD (J : It) (ds : List D) (B : Hp) : Prop := ∀ i H, Ex B H →
  (i < ds.length → J.go i H ∧ ∀ x H', J.yld i H x H' → Ex H H' ∧ ∀ S, InD S H → Ex B (hid H S) → ∀ d, ds[i]? = some d → Rep (hid H' S) d x) ∧ (ds.length ≤ i → J.stop i H)
def tDI (f : En → Option (List D)) : TI := fun σ H R => ∃ ρ S ds, InD S H ∧ RepS (hid H S) σ ρ ∧ f ρ = some ds ∧ ∀ J H', Ex H H' → WD J ds (hid H' S) → R J H'
theorem PI.imp {X : Cx} {tg e : Expr} {t t' : TI} (h : PI X tg e t) (i : ∀ σ H R, t' σ H R → t σ H R) : PI X tg e t' := ⟨fun pins s σ H R I q => h.run pins s σ H R I (i σ H R q)⟩
theorem wd_list {K : PySem.W.Frag} {B : Hp} {a : Addr} {vs : List V} {ds : List D} (ha : B a = some (.lst vs)) (hr : Reps B ds vs) : WD (Itl K a) ds B := fun i H e => by
  refine ⟨fun hi => ?_, fun hi => ⟨vs, sq_of (e a _ ha), by rw [hr.len]; exact hi⟩⟩
  have hv : i < vs.length := by rw [hr.len]; exact hi
  refine ⟨⟨vs, vs[i], sq_of (e a _ ha), List.getElem?_eq_getElem hv⟩, fun x H' hy => ?_⟩
  obtain ⟨e', hx⟩ := hy
  subst e'
  refine ⟨Ex.refl _, fun S _ eB d hd => ?_⟩
  obtain ⟨v, g1, g2⟩ := hr.get hd
  have gx := hx vs (sq_of (e a _ ha))
  rw [g1] at gx
  cases gx
  exact g2.mono eB
theorem wd_tup {K : PySem.W.Frag} {B : Hp} {a : Addr} {vs : List V} {ds : List D} (ha : B a = some (.tup vs)) (hr : Reps B ds vs) : WD (Itt K a) ds B := fun i H e => by
  refine ⟨fun hi => ?_, fun hi => ⟨vs, st_of (e a _ ha), by rw [hr.len]; exact hi⟩⟩
  have hv : i < vs.length := by rw [hr.len]; exact hi
  refine ⟨⟨vs, vs[i], st_of (e a _ ha), List.getElem?_eq_getElem hv⟩, fun x H' hy => ?_⟩
  obtain ⟨e', hx⟩ := hy
  subst e'
  refine ⟨Ex.refl _, fun S _ eB d hd => ?_⟩
  obtain ⟨v, g1, g2⟩ := hr.get hd
  have gx := hx vs (st_of (e a _ ha))
  rw [g1] at gx
  cases gx
  exact g2.mono eB
def rngD (lo hi : Int) : List D := (List.range (hi - lo).toNat).map fun i => D.int (lo + (i : Nat))
theorem rngD_len (lo hi : Int) : (rngD lo hi).length = (hi - lo).toNat := by
  unfold rngD
  rw [List.length_map, List.length_range]
theorem wd_rng {B : Hp} {lo hi : Int} : WD (Itr lo (hi - lo).toNat) (rngD lo hi) B := fun i H e => by
  refine ⟨fun hl => ⟨by rw [rngD_len] at hl; exact hl, fun x H' hy => ?_⟩, fun hl => by rw [rngD_len] at hl; exact hl⟩
  obtain ⟨e', hx⟩ := hy
  subst e' hx
  refine ⟨Ex.refl _, fun S _ _ d hd => ?_⟩
  rw [rngD_len] at hl
  unfold rngD at hd
  rw [List.getElem?_map, List.getElem?_range hl] at hd
  cases hd
  exact rfl
section
variable {X : Cx} {tg a b c e : Expr} {fa fb fc : En → Option D} {pos p : Pos}
def lstE (f : En → Option D) : En → Option (List D) := fun ρ => (f ρ).bind fun d => match d with
  | .lst ds => some ds
  | _ => none
def tupE (f : En → Option D) : En → Option (List D) := fun ρ => (f ρ).bind fun d => match d with
  | .tup ds => some ds
  | _ => none
theorem di_list (h : PE X e (tD fa)) : PI X tg e (tDI (lstE fa)) := PI.imp (pi_list h) fun σ H R ⟨ρ, S, ds, hS, hp, hf, hq⟩ => by
  unfold lstE at hf
  cases q : fa ρ with
  | none => simp [q] at hf
  | some d =>
    simp only [q, Option.bind_some] at hf
    cases d with
    | lst l =>
      simp only [Option.some.injEq] at hf
      subst hf
      refine ⟨ρ, S, .lst l, hS, hp, q, fun v H1 e1 r1 => ?_⟩
      obtain ⟨a, xs, hv, ha, hr⟩ := r1
      exact ⟨a, hv, ⟨xs, sq_of (hid_sub a _ ha)⟩, hq _ H1 e1 (wd_list ha hr)⟩
    | _ => simp at hf
theorem di_tup (h : PE X e (tD fa)) : PI X tg e (tDI (tupE fa)) := PI.imp (pi_tup h) fun σ H R ⟨ρ, S, ds, hS, hp, hf, hq⟩ => by
  unfold tupE at hf
  cases q : fa ρ with
  | none => simp [q] at hf
  | some d =>
    simp only [q, Option.bind_some] at hf
    cases d with
    | tup l =>
      simp only [Option.some.injEq] at hf
      subst hf
      refine ⟨ρ, S, .tup l, hS, hp, q, fun v H1 e1 r1 => ?_⟩
      obtain ⟨a, xs, hv, ha, hr⟩ := r1
      exact ⟨a, hv, ⟨xs, st_of (hid_sub a _ ha)⟩, hq _ H1 e1 (wd_tup ha hr)⟩
    | _ => simp at hf
/-- range(a) -/
def rg1E (f : En → Option (List D)) : En → Option (List D) := fun ρ => (f ρ).bind fun l => match l with
  | [.int j] => if -(2 ^ 62) ≤ j ∧ j < 2 ^ 62 then some (rngD 0 j) else none
  | _ => none
def rg2E (f : En → Option (List D)) : En → Option (List D) := fun ρ => (f ρ).bind fun l => match l with
  | [.int i, .int j] => if (-(2 ^ 62) ≤ i ∧ i < 2 ^ 62) ∧ -(2 ^ 62) ≤ j ∧ j < 2 ^ 62 then some (rngD i j) else none
  | _ => none
theorem di_rng1 {g : En → Option (List D)} (hg : Gl X "range") (hm : X.mg "range" = none) (ha : PA X [a] (tDA g)) (hs : starEach [a] X.env = [(false, eval a X.env)] := by rfl) : PI X tg (.Call (.Name "range" p) [a] [] pos) (tDI (rg1E g)) :=
  PI.imp (pi_range1 hg hm ha hs) fun σ H R ⟨ρ, S, ds, hS, hp, hf, hq⟩ => by
  unfold rg1E at hf
  cases q : g ρ with
  | none => simp [q] at hf
  | some l =>
    simp only [q, Option.bind_some] at hf
    split at hf
    · rename_i j
      split at hf
      · rename_i hj
        cases hf
        refine ⟨ρ, S, _, hS, hp, q, fun vs H1 e1 r1 => ?_⟩
        obtain ⟨x, t, hv, h1, h2⟩ := r1
        cases (show t = [] from h2)
        cases (show x = V.int j from h1)
        have w := wd_rng (B := hid H1 S) (lo := 0) (hi := j)
        rw [Int.sub_zero] at w
        exact ⟨j, hv, hj.1, hj.2, hq _ H1 e1 w⟩
      · cases hf
    · cases hf
theorem di_rng2 {g : En → Option (List D)} (hg : Gl X "range") (hm : X.mg "range" = none) (ha : PA X [a, b] (tDA g)) (hs : starEach [a, b] X.env = [(false, eval a X.env), (false, eval b X.env)] := by rfl) (hs2 : starEach [b] X.env = [(false, eval b X.env)] := by rfl) :
    PI X tg (.Call (.Name "range" p) [a, b] [] pos) (tDI (rg2E g)) :=
  PI.imp (pi_range2 hg hm ha hs hs2) fun σ H R ⟨ρ, S, ds, hS, hp, hf, hq⟩ => by
  unfold rg2E at hf
  cases q : g ρ with
  | none => simp [q] at hf
  | some l =>
    simp only [q, Option.bind_some] at hf
    split at hf
    · rename_i i j
      split at hf
      · rename_i hj
        cases hf
        refine ⟨ρ, S, _, hS, hp, q, fun vs H1 e1 r1 => ?_⟩
        obtain ⟨x, t, hv, h1, y, t2, hv2, h2, h3⟩ := r1
        cases (show t2 = [] from h3)
        cases (show x = V.int i from h1)
        cases (show y = V.int j from h2)
        subst hv2
        exact ⟨i, j, hv, ⟨hj.1.1, hj.1.2, hj.2.1, hj.2.2⟩, hq _ H1 e1 wd_rng⟩
      · cases hf
    · cases hf

/-! ## targets -/
inductive Tg where
  | nm (i : Nat)
  | pr (i j : Nat)
def Tg.slots : Tg → List Nat
  | .nm i => [i]
  | .pr i j => [i, j]
def bdT : Tg → D → En → Option En
  | .nm i, d, ρ => some (ρ.set i (some d))
  | .pr i j, .tup [x, y], ρ => some ((ρ.set i (some x)).set j (some y))
  | .pr _ _, _, _ => none
/-- a target's reading, by data -/
def GD (g : TG) (t : Tg) : Prop := ∀ S d ρ0 ρ1 σ0 v H Q, RepS (hid H S) σ0 ρ0 → Rep (hid H S) d v → bdT t d ρ0 = some ρ1 →
  (∀ σ1, RepS (hid H S) σ1 ρ1 → (∀ vs, (∀ i ∈ t.slots, i ∈ vs) → wipe σ1 vs = wipe σ0 vs) → (∀ k, k ∉ t.slots → σ1[k]? = σ0[k]?) → Q σ1 H) → g v σ0 H Q
theorem set_comm' {σ : L2.St} {i j : Nat} {x y : Option V} (h : i ≠ j) : (σ.set i x).set j y = (σ.set j y).set i x := List.set_comm _ _ h
theorem wipe_set {σ : L2.St} {i : Nat} {x : Option V} : ∀ {vs : List Nat}, (i ∈ vs → wipe (σ.set i x) vs = wipe σ vs) ∧ (i ∉ vs → wipe (σ.set i x) vs = (wipe σ vs).set i x)
  | [] => ⟨fun h => (List.not_mem_nil h).elim, fun _ => rfl⟩
  | v :: vs => by
    obtain ⟨h1, h2⟩ := wipe_set (σ := σ) (i := i) (x := x) (vs := vs)
    by_cases hv : i ∈ vs
    · refine ⟨fun _ => ?_, fun n => (n (List.mem_cons_of_mem _ hv)).elim⟩
      show (wipe (σ.set i x) vs).set v none = (wipe σ vs).set v none
      rw [h1 hv]
    · refine ⟨fun hm => ?_, fun n => ?_⟩
      · have e : i = v := by
          rcases List.mem_cons.mp hm with e | hm
          · exact e
          · exact (hv hm).elim
        subst e
        show (wipe (σ.set i x) vs).set i none = (wipe σ vs).set i none
        rw [h2 hv, List.set_set]
      · show (wipe (σ.set i x) vs).set v none = ((wipe σ vs).set v none).set i x
        rw [h2 hv, List.set_comm]
        intro e
        exact n (by rw [e]; exact List.mem_cons_self ..)
theorem wipe_idem {σ : L2.St} : ∀ {vs : List Nat}, wipe (wipe σ vs) vs = wipe σ vs := by
  intro vs
  have all : ∀ (us : List Nat), (∀ v ∈ us, v ∈ vs) → wipe (wipe σ us) vs = wipe σ vs := by
    intro us
    induction us with
    | nil => intro _; rfl
    | cons u us ih =>
      intro h
      show wipe ((wipe σ us).set u none) vs = wipe σ vs
      rw [wipe_set.1 (h u (List.mem_cons_self ..))]
      exact ih fun v hv => h v (List.mem_cons_of_mem _ hv)
  exact all vs fun _ h => h
theorem gd_nm {i : Nat} : GD (gName i) (.nm i) := fun S d ρ0 ρ1 σ0 v H Q hr hd hb k => by
  cases hb
  exact k _ (hr.set hd) (fun vs h => wipe_set.1 (h i (List.mem_cons_self ..))) fun j hj => List.getElem?_set_ne fun e => hj (by rw [e]; exact List.mem_cons_self ..)
theorem bdT_pr {i j : Nat} {d : D} {ρ0 ρ1 : En} (h : bdT (.pr i j) d ρ0 = some ρ1) : ∃ x y, d = .tup [x, y] ∧ ρ1 = (ρ0.set i (some x)).set j (some y) := by
  cases d with
  | tup l =>
    match l, h with
    | [x, y], h => exact ⟨x, y, rfl, (Option.some.inj h).symm⟩
    | [], h => simp [bdT] at h
    | [_], h => simp [bdT] at h
    | _ :: _ :: _ :: _, h => simp [bdT] at h
  | _ => simp [bdT] at h
theorem gd_pr {K : PySem.W.Frag} {i j : Nat} : GD (gTup K 2 (gCons (gName i) (gCons (gName j) gNil))) (.pr i j) := fun S d ρ0 ρ1 σ0 v H Q hr hd hb k => by
  obtain ⟨x, y, e1, e2⟩ := bdT_pr hb
  subst e1 e2
  obtain ⟨a, xs, hv, ha, u, r, hu, h1, w, r2, hw, h2, h3⟩ := hd
  cases (show r2 = [] from h3)
  subst hw hu hv
  refine ⟨a, [u, w], rfl, st_of (hid_sub a _ ha), rfl, u, [w], rfl, w, [], rfl, rfl, ?_⟩
  refine k _ ((hr.set h1).set h2) (fun vs h => ?_) fun l hl => ?_
  · rw [wipe_set.1 (h j (List.mem_cons_of_mem _ (List.mem_cons_self ..))), wipe_set.1 (h i (List.mem_cons_self ..))]
  · rw [List.getElem?_set_ne fun e => hl (by rw [← e]; exact List.mem_cons_of_mem _ (List.mem_cons_self ..)), List.getElem?_set_ne fun e => hl (by rw [← e]; exact List.mem_cons_self ..)]

/-! ## comprehensions -/
def compD (t : Tg) (c : En → Option Bool) (f : En → Option D) (ρ : En) : List D → Option (List D)
  | [] => some []
  | d :: r => (bdT t d ρ).bind fun ρ1 => (c ρ1).bind fun k => if k = true then (f ρ1).bind fun y => (compD t c f ρ r).map fun l => y :: l else compD t c f ρ r
def lcE (fi : En → Option (List D)) (t : Tg) (c : En → Option Bool) (f : En → Option D) (vs : List Nat) : En → Option D := fun ρ => (fi ρ).bind fun ds => (compD t c f (wipeE ρ vs) ds).bind lstG
theorem dt_yes {σ : L2.St} {H : Hp} {Q : Bool → Hp → Prop} (h : tDT tyE σ H Q) : tYes σ H Q := by
  obtain ⟨ρ, S, b, h1, h2, h3, h4⟩ := h
  cases h3
  exact h4 H (Ex.refl H)
theorem hid_upd {H : Hp} {S : List Addr} {a : Addr} {o : HO} (h : a ∈ S) : hid (upd H a o) S = hid H S := by
  funext b
  unfold hid
  split
  · rfl
  · rename_i n
    exact upd_ne fun e => n (by rw [e]; exact h)
theorem drop_get {α : Type} {l : List α} {i : Nat} (h : i < l.length) : l.drop i = l[i] :: l.drop (i + 1) := List.drop_eq_getElem_cons h
/-- the turns of a comprehension: what is at D grows -/
structure CT (H1 : Hp) (S : List Addr) (Dl : Addr) (out accD rest : List D) (H : Hp) : Prop where
  ex : Ex H1 H
  acc : ∃ acc, H Dl = some (.lst acc) ∧ Reps (hid H (Dl :: S)) accD acc
  out : out = accD ++ rest
theorem CT.next {H1 H : Hp} {S : List Addr} {Dl : Addr} {out accD rest : List D} (h : CT H1 S Dl out accD rest H) {H' : Hp} (e : Ex H H') : CT H1 S Dl out accD rest H' := by
  obtain ⟨ex, ⟨acc, h1, h2⟩, ho⟩ := h
  exact ⟨ex.trans e, ⟨acc, e Dl _ h1, h2.mono (hid_mono e)⟩, ho⟩
theorem CT.put {H1 H : Hp} {S : List Addr} {Dl : Addr} {out accD rest : List D} {d : D} {y : V} (n : H1 Dl = none) (h : CT H1 S Dl out accD (d :: rest) H) (hl : out.length ≤ cap) (r : Rep (hid H (Dl :: S)) d y) :
    ∃ acc, H Dl = some (.lst acc) ∧ acc.length < sizeLine ∧ CT H1 S Dl out (accD ++ [d]) rest (upd H Dl (.lst (acc ++ [y]))) := by
  obtain ⟨ex, ⟨acc, h1, h2⟩, ho⟩ := h
  have hm : Dl ∈ Dl :: S := List.mem_cons_self ..
  refine ⟨acc, h1, ?_, Ex.mut ex n, ⟨_, upd_same, ?_⟩, ?_⟩
  · have e := congrArg List.length ho
    rw [List.length_append, List.length_cons] at e
    rw [h2.len]
    exact cap_lt (by omega)
  · rw [hid_upd hm]
    exact h2.append (Reps.one r)
  · rw [ho, List.append_assoc]
    rfl
/-- one item's way through targets, tests, element -/
theorem lc_turn {g : TG} {t : Tg} {c : En → Option Bool} {f : En → Option D} {tt : TT} {te : TE} {vs : List Nat} {σ0 : L2.St} {ρ0 : En} {H1 H' : Hp} {S : List Addr} {Dl : Addr} {out accD rest tl : List D} {d : D} {r : List D} {x : V} {Nx : Hp → Prop}
    (hg : GD g t) (hvs : ∀ i ∈ t.slots, i ∈ vs) (ht : ∀ σ H Q, tDT c σ H Q → tt σ H Q) (he : ∀ σ H Q, tD f σ H Q → te σ H Q) (hl : out.length ≤ cap) (nD : H1 Dl = none)
    (hS : InD (Dl :: S) H') (hp : RepS (hid H' (Dl :: S)) σ0 ρ0) (hd : Rep (hid H' (Dl :: S)) d x) (hc : compD t c f ρ0 (d :: r) = some rest) (ct : CT H1 S Dl out accD (rest ++ tl) H')
    (hN : ∀ accD' rest' H2, compD t c f ρ0 r = some rest' → CT H1 S Dl out accD' (rest' ++ tl) H2 → Nx H2) :
    g x σ0 H' fun σ2 H2 => wipe σ2 vs = wipe σ0 vs ∧ tt σ2 H2 fun b H3 => if b = true then te σ2 H3 fun y H4 => ∃ acc, H4 Dl = some (.lst acc) ∧ acc.length < sizeLine ∧ Nx (upd H4 Dl (.lst (acc ++ [y]))) else Nx H3 := by
  unfold compD at hc
  cases q1 : bdT t d ρ0 with
  | none => simp [q1] at hc
  | some ρ1 =>
    simp only [q1, Option.bind_some] at hc
    cases q2 : c ρ1 with
    | none => simp [q2] at hc
    | some k =>
      simp only [q2, Option.bind_some] at hc
      refine hg (Dl :: S) d ρ0 ρ1 σ0 x H' _ hp hd q1 fun σ1 hp1 hw _ => ⟨hw vs hvs, ht _ _ _ ⟨ρ1, Dl :: S, k, hS, hp1, q2, fun H3 e3 => ?_⟩⟩
      cases k with
      | true =>
        show te σ1 H3 _
        simp only [if_true] at hc
        cases q3 : f ρ1 with
        | none => simp [q3] at hc
        | some y =>
          simp only [q3, Option.bind_some] at hc
          cases q4 : compD t c f ρ0 r with
          | none => simp [q4] at hc
          | some l =>
            simp only [q4, Option.map_some, Option.some.injEq] at hc
            subst hc
            refine he _ _ _ ⟨ρ1, Dl :: S, y, hS.mono e3, hp1.mono (hid_mono e3), q3, fun v H4 e4 r4 => ?_⟩
            obtain ⟨acc, a1, a2, a3⟩ := (ct.next (e3.trans e4)).put nD hl r4
            exact ⟨acc, a1, a2, hN _ _ _ q4 a3⟩
      | false =>
        show Nx H3
        have hc' : compD t c f ρ0 r = some rest := by simpa using hc
        exact hN _ _ _ hc' (ct.next e3)
theorem lc_read {wi : TI} {g : TG} {tt : TT} {te : TE} {fi : En → Option (List D)} {t : Tg} {c : En → Option Bool} {f : En → Option D} {vs : List Nat} (hi : ∀ σ H R, tDI fi σ H R → wi σ H R) (hg : GD g t) (hvs : ∀ i ∈ t.slots, i ∈ vs) (ht : ∀ σ H Q, tDT c σ H Q → tt σ H Q) (he : ∀ σ H Q, tD f σ H Q → te σ H Q)
    (σ : L2.St) (H : Hp) (Q : VK) (h : tD (lcE fi t c f vs) σ H Q) : tLc wi g tt te vs σ H Q := by
  obtain ⟨ρ, S, dd, hS, hp, hf, hq⟩ := h
  unfold lcE at hf
  cases q1 : fi ρ with
  | none => simp [q1] at hf
  | some ds =>
    simp only [q1, Option.bind_some] at hf
    cases q2 : compD t c f (wipeE ρ vs) ds with
    | none => simp [q2] at hf
    | some out =>
      simp only [q2, Option.bind_some] at hf
      obtain ⟨hl, rfl⟩ := lstG_some hf
      refine hi _ _ _ ⟨ρ, S, ds, hS, hp, q1, fun J H1 e1 wd Dl hD => ?_⟩
      have hS1 := hS.mono e1
      have hDS : Dl ∉ S := hS1.new hD
      refine ⟨fun i m Hc => m = ds.length - i ∧ i ≤ ds.length ∧ ∃ accD rest, compD t c f (wipeE ρ vs) (ds.drop i) = some rest ∧ CT H1 S Dl out accD rest Hc, ⟨ds.length, by simp, Nat.zero_le _, [], out, q2, Ex.new hD, ⟨[], upd_same, rfl⟩, rfl⟩, ?_⟩
      rintro i m Hc ⟨rfl, hile, accD, rest, hc, ct⟩
      have eB : Ex (hid H1 S) Hc := fun a o h => ct.ex a o (hid_sub a o h)
      by_cases hlt : i < ds.length
      · refine .inr ⟨((wd i Hc eB).1 hlt).1, fun H' => ∃ accD rest, compD t c f (wipeE ρ vs) (ds.drop (i + 1)) = some rest ∧ CT H1 S Dl out accD rest H', fun H' ⟨a', r', c1, c2⟩ => ⟨ds.length - (i + 1), by omega, rfl, hlt, a', r', c1, c2⟩, fun x H' hy => ?_⟩
        obtain ⟨e2, hx⟩ := ((wd i Hc eB).1 hlt).2 x H' hy
        obtain ⟨acc, a1, a2⟩ := ct.acc
        have hSc : InD (Dl :: S) Hc := (hS1.mono ct.ex).cons a1
        have eS : Ex (hid H1 S) (hid Hc (Dl :: S)) := hid_more ct.ex fun a ha => by
          rcases List.mem_cons.mp ha with e | ha
          · rw [e]; exact .inr hD
          · exact .inl ha
        have hdx := hx (Dl :: S) hSc eS ds[i] (List.getElem?_eq_getElem hlt)
        rw [drop_get hlt] at hc
        have hp' : RepS (hid H' (Dl :: S)) (wipe σ vs) (wipeE ρ vs) := ((hp.mono (hid_mono e1)).mono (eS.trans (hid_mono e2))).wipe vs
        have hw : ∀ σ2, (wipe σ2 vs = wipe (wipe σ vs) vs) = (wipe σ2 vs = wipe σ vs) := fun σ2 => by rw [wipe_idem]
        have z := lc_turn (Nx := fun H' => ∃ accD rest, compD t c f (wipeE ρ vs) (ds.drop (i + 1)) = some rest ∧ CT H1 S Dl out accD rest H') (tl := []) hg hvs ht he hl hD (hSc.mono e2) hp' hdx hc (by rw [List.append_nil]; exact ct.next e2) (fun a' r' H2 c1 c2 => ⟨a', r', c1, by rw [List.append_nil] at c2; exact c2⟩)
        simp only [wipe_idem] at z
        exact z
      · have ei : i = ds.length := by omega
        subst ei
        rw [List.drop_length] at hc
        simp only [compD, Option.some.injEq] at hc
        subst hc
        refine .inl ⟨(wd _ Hc eB).2 (Nat.le_refl _), ?_⟩
        obtain ⟨acc, a1, a2⟩ := ct.acc
        have ho : out = accD := by rw [ct.out, List.append_nil]
        subst ho
        exact hq _ Hc (e1.trans ct.ex) ⟨Dl, acc, rfl, hid_of a1 hDS, a2.mono (hid_less fun a ha => List.mem_cons_of_mem _ ha)⟩

/-! ### two clauses -/
def comp2D (t : Tg) (c : En → Option Bool) (fi1 : En → Option (List D)) (t1 : Tg) (c1 : En → Option Bool) (f : En → Option D) (vs1 : List Nat) (ρ : En) : List D → Option (List D)
  | [] => some []
  | d :: r => (bdT t d ρ).bind fun ρ1 => (c ρ1).bind fun k => if k = true then (fi1 ρ1).bind fun es => (compD t1 c1 f (wipeE ρ1 vs1) es).bind fun ys => (comp2D t c fi1 t1 c1 f vs1 ρ r).map fun l => ys ++ l else comp2D t c fi1 t1 c1 f vs1 ρ r
def lc2E (fi : En → Option (List D)) (t : Tg) (c : En → Option Bool) (fi1 : En → Option (List D)) (t1 : Tg) (c1 : En → Option Bool) (f : En → Option D) (vs vs1 : List Nat) : En → Option D :=
  fun ρ => (fi ρ).bind fun ds => (comp2D t c fi1 t1 c1 f vs1 (wipeE ρ vs) ds).bind lstG
theorem lc2_read {wi wi1 : TI} {g g1 : TG} {tt tt1 : TT} {te : TE} {fi fi1 : En → Option (List D)} {t t1 : Tg} {c c1 : En → Option Bool} {f : En → Option D} {vs vs1 : List Nat} (hi : ∀ σ H R, tDI fi σ H R → wi σ H R) (hg : GD g t) (hvs : ∀ i ∈ t.slots, i ∈ vs) (ht : ∀ σ H Q, tDT c σ H Q → tt σ H Q)
    (hi1 : ∀ σ H R, tDI fi1 σ H R → wi1 σ H R) (hg1 : GD g1 t1) (hvs1 : ∀ i ∈ t1.slots, i ∈ vs1) (ht1 : ∀ σ H Q, tDT c1 σ H Q → tt1 σ H Q) (he : ∀ σ H Q, tD f σ H Q → te σ H Q)
    (σ : L2.St) (H : Hp) (Q : VK) (h : tD (lc2E fi t c fi1 t1 c1 f vs vs1) σ H Q) : tLc2 wi g tt wi1 g1 tt1 te vs vs1 σ H Q := by
  obtain ⟨ρ, S, dd, hS, hp, hf, hq⟩ := h
  unfold lc2E at hf
  cases q1 : fi ρ with
  | none => simp [q1] at hf
  | some ds =>
    simp only [q1, Option.bind_some] at hf
    cases q2 : comp2D t c fi1 t1 c1 f vs1 (wipeE ρ vs) ds with
    | none => simp [q2] at hf
    | some out =>
      simp only [q2, Option.bind_some] at hf
      obtain ⟨hl, rfl⟩ := lstG_some hf
      refine hi _ _ _ ⟨ρ, S, ds, hS, hp, q1, fun J H1 e1 wd Dl hD => ?_⟩
      have hS1 := hS.mono e1
      have hDS : Dl ∉ S := hS1.new hD
      refine ⟨fun i m Hc => m = ds.length - i ∧ i ≤ ds.length ∧ ∃ accD rest, comp2D t c fi1 t1 c1 f vs1 (wipeE ρ vs) (ds.drop i) = some rest ∧ CT H1 S Dl out accD rest Hc, ⟨ds.length, by simp, Nat.zero_le _, [], out, q2, Ex.new hD, ⟨[], upd_same, rfl⟩, rfl⟩, ?_⟩
      rintro i m Hc ⟨rfl, hile, accD, rest, hc, ct⟩
      have eB : Ex (hid H1 S) Hc := fun a o h => ct.ex a o (hid_sub a o h)
      by_cases hlt : i < ds.length
      · refine .inr ⟨((wd i Hc eB).1 hlt).1, fun H' => ∃ accD rest, comp2D t c fi1 t1 c1 f vs1 (wipeE ρ vs) (ds.drop (i + 1)) = some rest ∧ CT H1 S Dl out accD rest H', fun H' ⟨a', r', c1, c2⟩ => ⟨ds.length - (i + 1), by omega, rfl, hlt, a', r', c1, c2⟩, fun x H' hy => ?_⟩
        obtain ⟨e2, hx⟩ := ((wd i Hc eB).1 hlt).2 x H' hy
        obtain ⟨acc, a1, a2⟩ := ct.acc
        have hSc : InD (Dl :: S) Hc := (hS1.mono ct.ex).cons a1
        have eS : Ex (hid H1 S) (hid Hc (Dl :: S)) := hid_more ct.ex fun a ha => by
          rcases List.mem_cons.mp ha with e | ha
          · rw [e]; exact .inr hD
          · exact .inl ha
        have hdx := hx (Dl :: S) hSc eS ds[i] (List.getElem?_eq_getElem hlt)
        rw [drop_get hlt] at hc
        have hp' : RepS (hid H' (Dl :: S)) (wipe σ vs) (wipeE ρ vs) := ((hp.mono (hid_mono e1)).mono (eS.trans (hid_mono e2))).wipe vs
        unfold comp2D at hc
        cases r1 : bdT t ds[i] (wipeE ρ vs) with
        | none => simp [r1] at hc
        | some ρ1 =>
          simp only [r1, Option.bind_some] at hc
          cases r2 : c ρ1 with
          | none => simp [r2] at hc
          | some k =>
            simp only [r2, Option.bind_some] at hc
            refine hg (Dl :: S) _ _ ρ1 _ x H' _ hp' hdx r1 fun σ1 hp1 hw _ => ⟨(hw vs hvs).trans wipe_idem, ht _ _ _ ⟨ρ1, Dl :: S, k, hSc.mono e2, hp1, r2, fun H3 e3 => ?_⟩⟩
            cases k with
            | false =>
              refine iteF ?_
              exact ⟨accD, rest, by simpa using hc, ct.next (e2.trans e3)⟩
            | true =>
              refine iteT ?_
              simp only [if_true] at hc
              cases r3 : fi1 ρ1 with
              | none => simp [r3] at hc
              | some es =>
                simp only [r3, Option.bind_some] at hc
                cases r4 : compD t1 c1 f (wipeE ρ1 vs1) es with
                | none => simp [r4] at hc
                | some ys =>
                  simp only [r4, Option.bind_some] at hc
                  cases r5 : comp2D t c fi1 t1 c1 f vs1 (wipeE ρ vs) (ds.drop (i + 1)) with
                  | none => simp [r5] at hc
                  | some tl =>
                    simp only [r5, Option.map_some, Option.some.injEq] at hc
                    subst hc
                    have hS3 : InD (Dl :: S) H3 := (hSc.mono e2).mono e3
                    refine hi1 _ _ _ ⟨ρ1, Dl :: S, es, hS3, hp1.mono (hid_mono e3), r3, fun J1 H4 e4 wd1 => ?_⟩
                    have ct4 := ct.next ((e2.trans e3).trans e4)
                    have nD4 : hid H4 [Dl] Dl = none := by
                      unfold hid
                      rw [if_pos (List.mem_cons_self ..)]
                    have e14 : Ex H1 (hid H4 [Dl]) := fun a o ha => hid_of (ct4.ex a o ha) fun hm => by
                      have ea : a = Dl := by simpa using hm
                      rw [ea, hD] at ha
                      cases ha
                    have eB4 : ∀ Hj, Ex (hid H4 [Dl]) Hj → Ex (hid H4 (Dl :: S)) (hid Hj (Dl :: S)) := fun Hj ej a o ha => by
                      have na : a ∉ Dl :: S := fun hm => by
                        unfold hid at ha
                        rw [if_pos hm] at ha
                        cases ha
                      refine hid_of (ej a o (hid_of (hid_sub a o ha) fun hm => na ?_)) na
                      have ea : a = Dl := by simpa using hm
                      rw [ea]
                      exact List.mem_cons_self ..
                    refine ⟨fun j k Hc => k = es.length - j ∧ j ≤ es.length ∧ ∃ accD' rest', compD t1 c1 f (wipeE ρ1 vs1) (es.drop j) = some rest' ∧ CT (hid H4 [Dl]) S Dl out accD' (rest' ++ tl) Hc,
                      ⟨es.length, by simp, Nat.zero_le _, accD, ys, r4, hid_sub, ct4.acc, ct4.out⟩, ?_⟩
                    rintro j k Hj ⟨rfl, hjle, accD', rest', hc', ct'⟩
                    have eJ := eB4 Hj ct'.ex
                    have eBj : Ex (hid H4 (Dl :: S)) Hj := fun a o h => hid_sub a o (eJ a o h)
                    by_cases hjt : j < es.length
                    · refine .inr ⟨((wd1 j Hj eBj).1 hjt).1, fun H' => ∃ accD' rest', compD t1 c1 f (wipeE ρ1 vs1) (es.drop (j + 1)) = some rest' ∧ CT (hid H4 [Dl]) S Dl out accD' (rest' ++ tl) H', fun H' ⟨a', r', c1, c2⟩ => ⟨es.length - (j + 1), by omega, rfl, hjt, a', r', c1, c2⟩, fun y H5 hy5 => ?_⟩
                      obtain ⟨e5, hx5⟩ := ((wd1 j Hj eBj).1 hjt).2 y H5 hy5
                      obtain ⟨acc', b1, b2⟩ := ct'.acc
                      have hSj : InD (Dl :: S) Hj := ((hS1.mono e14).mono ct'.ex).cons b1
                      have hdy := hx5 (Dl :: S) hSj eJ es[j] (List.getElem?_eq_getElem hjt)
                      rw [drop_get hjt] at hc'
                      have hp5 : RepS (hid H5 (Dl :: S)) (wipe σ1 vs1) (wipeE ρ1 vs1) := ((hp1.mono (hid_mono (e3.trans e4))).mono (eJ.trans (hid_mono e5))).wipe vs1
                      have z := lc_turn (tl := tl) (Nx := fun H' => ∃ accD' rest', compD t1 c1 f (wipeE ρ1 vs1) (es.drop (j + 1)) = some rest' ∧ CT (hid H4 [Dl]) S Dl out accD' (rest' ++ tl) H') hg1 hvs1 ht1 he hl nD4 (hSj.mono e5) hp5 hdy hc' (ct'.next e5)
                        (fun a' r' H2 c1 c2 => ⟨a', r', c1, c2⟩)
                      simp only [wipe_idem] at z
                      exact z
                    · have ej : j = es.length := by omega
                      subst ej
                      rw [List.drop_length] at hc'
                      simp only [compD, Option.some.injEq] at hc'
                      subst hc'
                      exact .inl ⟨(wd1 _ Hj eBj).2 (Nat.le_refl _), accD', tl, rfl, e14.trans ct'.ex, ct'.acc, by have := ct'.out; rw [List.nil_append] at this; exact this⟩
      · have ei : i = ds.length := by omega
        subst ei
        rw [List.drop_length] at hc
        simp only [comp2D, Option.some.injEq] at hc
        subst hc
        refine .inl ⟨(wd _ Hc eB).2 (Nat.le_refl _), ?_⟩
        obtain ⟨acc, a1, a2⟩ := ct.acc
        have ho : out = accD := by rw [ct.out, List.append_nil]
        subst ho
        exact hq _ Hc (e1.trans ct.ex) ⟨Dl, acc, rfl, hid_of a1 hDS, a2.mono (hid_less fun a ha => List.mem_cons_of_mem _ ha)⟩
end
end DL
end Part_DL3
section Part_DL4
set_option Elab.async false
set_option linter.all false
set_option maxRecDepth 100000
set_option maxHeartbeats 2000000
set_option autoImplicit false
namespace DL
open PySem PySem.Spec PyProof.Rows L2 Evl

/-! ## statements by data -/
/-- the names' data, and the name of the list that is being filled (nobody else knows that list) -/
structure ES where
  own : Option Nat
  ρ : En
def ES.view (e : ES) : En := match e.own with
  | none => e.ρ
  | some k => e.ρ.set k none
def ES.rel (e : ES) : ES := ⟨none, e.ρ⟩
theorem view_rel (e : ES) : e.rel.view = e.ρ := rfl
structure SR0 (H0 : Hp) (S ow : List Addr) (e : ES) (σ : L2.St) (H : Hp) : Prop where
  ex : Ex H0 H
  ind : InD S H0
  fr : ∀ a ∈ ow, H0 a = none
  dom : InD ow H
  rep : RepS (hid H (ow ++ S)) σ e.view
  own : (e.own = none ∧ ow = []) ∨ ∃ k p xs ds, e.own = some k ∧ ow = [p] ∧ H p = some (.lst xs) ∧ σ[k]? = some (some (.ref p)) ∧ e.ρ[k]? = some (some (.lst ds)) ∧ Reps (hid H (p :: S)) ds xs
def SR (H0 : Hp) (S : List Addr) (e : ES) (σ : L2.St) (H : Hp) : Prop := ∃ ow, SR0 H0 S ow e σ H
section
variable {H0 H H' : Hp} {S ow : List Addr} {e : ES} {σ : L2.St}
theorem SR0.ind2 (h : SR0 H0 S ow e σ H) : InD (ow ++ S) H := fun a m => by
  rcases List.mem_append.mp m with m | m
  · exact h.dom a m
  · exact (h.ind.mono h.ex) a m
theorem SR0.mono (h : SR0 H0 S ow e σ H) (x : Ex H H') : SR0 H0 S ow e σ H' := by
  refine ⟨h.ex.trans x, h.ind, h.fr, h.dom.mono x, h.rep.mono (hid_mono x), ?_⟩
  rcases h.own with o | ⟨k, p, xs, ds, a1, a2, a3, a4, a5, a6⟩
  · exact .inl o
  · exact .inr ⟨k, p, xs, ds, a1, a2, x p _ a3, a4, a5, a6.mono (hid_mono x)⟩
theorem SR.mono (h : SR H0 S e σ H) (x : Ex H H') : SR H0 S e σ H' := let ⟨ow, h⟩ := h; ⟨ow, h.mono x⟩
theorem SR.start {H : Hp} {S : List Addr} {σ : L2.St} {ρ : En} (hS : InD S H) (hp : RepS (hid H S) σ ρ) : SR H S ⟨none, ρ⟩ σ H :=
  ⟨[], Ex.refl H, hS, (fun _ m => nomatch m), (fun _ m => nomatch m), hp, .inl ⟨rfl, rfl⟩⟩
/-- the list is one like others from here on -/
theorem SR.rel (h : SR H0 S e σ H) : SR H0 S e.rel σ H := by
  obtain ⟨ow, h⟩ := h
  rcases h.own with ⟨o1, o2⟩ | ⟨k, p, xs, ds, a1, a2, a3, a4, a5, a6⟩
  · refine ⟨[], h.ex, h.ind, (fun _ m => nomatch m), (fun _ m => nomatch m), ?_, .inl ⟨rfl, rfl⟩⟩
    have q := h.rep
    rw [o2] at q
    unfold ES.view at q
    rw [o1] at q
    exact q
  · refine ⟨[], h.ex, h.ind, (fun _ m => nomatch m), (fun _ m => nomatch m), ?_, .inl ⟨rfl, rfl⟩⟩
    have q := h.rep
    rw [a2] at q
    unfold ES.view at q
    rw [a1] at q
    have pS : p ∉ S := fun m => h.ind p m (h.fr p (by rw [a2]; exact List.mem_cons_self ..))
    show RepS (hid H S) σ e.ρ
    refine ⟨?_, fun i d hd => ?_⟩
    · have l := q.len
      simp only [List.length_set] at l
      exact l
    · by_cases hi : k = i
      · subst hi
        rw [a5] at hd
        cases hd
        exact ⟨_, a4, p, xs, rfl, hid_of a3 pS, a6.mono (hid_less fun a m => List.mem_cons_of_mem _ m)⟩
      · obtain ⟨v, q1, q2⟩ := q.at' i d (by simp only [List.getElem?_set_ne hi]; exact hd)
        exact ⟨v, q1, q2.mono (hid_less fun a m => by simp [m])⟩
/-- a name is stored -/
theorem SR0.set (h : SR0 H0 S ow e σ H) {i : Nat} {d : D} {v : V} (ni : e.own ≠ some i) (r : Rep (hid H (ow ++ S)) d v) : SR0 H0 S ow ⟨e.own, e.ρ.set i (some d)⟩ (σ.set i (some v)) H := by
  refine ⟨h.ex, h.ind, h.fr, h.dom, ?_, ?_⟩
  · have q := h.rep.set (i := i) r
    unfold ES.view at q ⊢
    cases ho : e.own with
    | none =>
      rw [ho] at q
      exact q
    | some k =>
      rw [ho] at q
      have hk : k ≠ i := fun z => ni (by rw [ho, z])
      show RepS _ _ ((e.ρ.set i (some d)).set k none)
      rw [List.set_comm _ _ hk.symm]
      exact q
  · rcases h.own with o | ⟨k, p, xs, ds, a1, a2, a3, a4, a5, a6⟩
    · exact .inl o
    · have hk : i ≠ k := fun z => ni (by rw [a1, z])
      exact .inr ⟨k, p, xs, ds, a1, a2, a3, by rw [List.getElem?_set_ne hk]; exact a4, by
        show (e.ρ.set i (some d))[k]? = _
        rw [List.getElem?_set_ne hk]
        exact a5, a6⟩
/-- the base made smaller -/
theorem SR0.base {Hs : Hp} (h : SR0 Hs S ow e σ H) (x : Ex H0 Hs) (hS : InD S H0) : SR0 H0 S ow e σ H :=
  by
  refine ⟨x.trans h.ex, hS, fun a m => ?_, h.dom, h.rep, h.own⟩
  cases q : H0 a with
  | none => rfl
  | some o =>
    have := h.fr a m
    rw [x a o q] at this
    cases this
/-- the base: all but the list that is being filled -/
theorem SR0.up (h : SR0 H0 S ow e σ H) : SR0 (hid H ow) S ow e σ H ∧ Ex H0 (hid H ow) := by
  have x : Ex H0 (hid H ow) := fun a o q => hid_of (h.ex a o q) fun m => by
    rw [h.fr a m] at q
    cases q
  refine ⟨⟨hid_sub, h.ind.mono x, fun a m => ?_, h.dom, h.rep, h.own⟩, x⟩
  unfold hid
  rw [if_pos m]
end

inductive Out where
  | nx (e : ES)
  | rt (d : D)
  | ex
def OutOk (H0 : Hp) (S : List Addr) (Ew : Hp → Prop) (D : Ends) : Out → Prop
  | .nx e => ∀ σ' H', SR H0 S e σ' H' → D.nx σ' H'
  | .rt d => ∀ v H', Ex H0 H' → Rep (hid H' S) d v → D.rt v H'
  | .ex => ∀ H', Ex H0 H' → Ew H'
def tDS (Ew : Hp → Prop) (F : ES → Option Out) : TS := fun D σ H => ∃ H0 S e o, SR H0 S e σ H ∧ F e = some o ∧ OutOk H0 S Ew D o

def nextF : ES → Option Out := fun e => some (.nx e)
def seqF (F G : ES → Option Out) : ES → Option Out := fun e => (F e).bind fun o => match o with
  | .nx e' => G e'
  | o => some o
def setF (i : Nat) (f : En → Option D) : ES → Option Out := fun e => if e.own = some i then none else (f e.view).map fun d => .nx ⟨e.own, e.ρ.set i (some d)⟩
/-- name = the list that was filled: it is one like others from here on -/
def setRF (i : Nat) (f : En → Option D) : ES → Option Out := fun e => (f e.ρ).map fun d => .nx ⟨none, e.ρ.set i (some d)⟩
def retF (f : En → Option D) : ES → Option Out := fun e => (f e.ρ).map .rt
def dropF (f : En → Option D) : ES → Option Out := fun e => (f e.view).map fun _ => .nx e
def ifF (c : En → Option Bool) (F G : ES → Option Out) : ES → Option Out := fun e => (c e.view).bind fun k => if k = true then F e else G e
def neverF : ES → Option Out := fun _ => none
def raiseF : ES → Option Out := fun _ => some .ex
/-- name = [], to be filled -/
def ownF (k : Nat) : ES → Option Out := fun e => if e.own = none ∧ k < e.ρ.length then some (.nx ⟨some k, e.ρ.set k (some (.lst []))⟩) else none
def growF (k : Nat) (f : En → Option (List D)) : ES → Option Out := fun e => if e.own = some k then (match e.ρ[k]? with
  | some (some (.lst ds)) => (f e.view).bind fun l => if ds.length + l.length < cap then some (.nx ⟨some k, e.ρ.set k (some (.lst (ds ++ l)))⟩) else none
  | _ => none) else none
def oneE (f : En → Option D) : En → Option (List D) := fun ρ => (f ρ).map fun d => [d]
def appF (k : Nat) (f : En → Option D) : ES → Option Out := growF k (oneE f)
def bdS (t : Tg) (d : D) (e : ES) : Option ES := if e.own.any (t.slots.contains ·) then none else (bdT t d e.ρ).map fun r => ⟨e.own, r⟩
def loopF (t : Tg) (F : ES → Option Out) : List D → ES → Option Out
  | [], e => some (.nx e)
  | d :: r, e => (bdS t d e).bind fun e1 => (F e1).bind fun o => match o with
    | .nx e2 => loopF t F r e2
    | o => some o
def forF (fi : En → Option (List D)) (t : Tg) (F : ES → Option Out) : ES → Option Out := fun e => (fi e.view).bind fun ds => loopF t F ds e
def whF (c : En → Option Bool) (F : ES → Option Out) : Nat → ES → Option Out
  | 0, _ => none
  | n + 1, e => (c e.view).bind fun k => if k = true then (F e).bind fun o => match o with
    | .nx e2 => whF c F n e2
    | o => some o
    else some (.nx e)

section
variable {X : Cx} {Ew : Hp → Prop} {st : Stmt} {rest : List Stmt} {F G : ES → Option Out} {f : En → Option D} {c : En → Option Bool} {pos : Pos} {e : Expr}
theorem ds_nil : PSs X [] (tDS Ew nextF) := PSs.imp pss_nil fun D σ H ⟨H0, S, e, o, h1, h2, h3⟩ => by
  cases h2
  exact h3 σ H h1
theorem dss_one (h : PS X st (tDS Ew F)) : PSs X [st] (tDS Ew F) := pss_one h
theorem dss_cons (h : PS X st (tDS Ew F)) (k : PSs X rest (tDS Ew G)) : PSs X (st :: rest) (tDS Ew (seqF F G)) := PSs.imp (pss_cons h k) fun D σ H ⟨H0, S, e, o, h1, h2, h3⟩ => by
  unfold seqF at h2
  cases q : F e with
  | none => simp [q] at h2
  | some o1 =>
    simp only [q, Option.bind_some] at h2
    refine ⟨H0, S, e, o1, h1, q, ?_⟩
    cases o1 with
    | nx e' => exact fun σ' H' s' => ⟨H0, S, e', o, s', h2, h3⟩
    | rt d =>
      cases h2
      exact h3
    | ex =>
      cases h2
      exact h3
/-- what a part's reading needs -/
theorem ev_of {H0 H : Hp} {S ow : List Addr} {e : ES} {σ : L2.St} {f : En → Option D} {d : D} {Q : VK} (h : SR0 H0 S ow e σ H) (hf : f e.view = some d) (k : ∀ v H1, Ex H H1 → Rep (hid H1 (ow ++ S)) d v → Q v H1) : tD f σ H Q :=
  ⟨e.view, ow ++ S, d, h.ind2, h.rep, hf, k⟩
theorem evT_of {H0 H : Hp} {S ow : List Addr} {e : ES} {σ : L2.St} {b : Bool} {Q : Bool → Hp → Prop} (h : SR0 H0 S ow e σ H) (hf : c e.view = some b) (k : ∀ H1, Ex H H1 → Q b H1) : tDT c σ H Q :=
  ⟨e.view, ow ++ S, b, h.ind2, h.rep, hf, k⟩
theorem ds_asg {te : TE} {i : Nat} (h : PS X st (tAsg te (gName i))) (ht : ∀ σ H Q, tD f σ H Q → te σ H Q) : PS X st (tDS Ew (setF i f)) := PS.imp h fun D σ H ⟨H0, S, e, o, ⟨ow, h1⟩, h2, h3⟩ => by
  unfold setF at h2
  split at h2
  · cases h2
  · rename_i ni
    cases q : f e.view with
    | none => simp [q] at h2
    | some d =>
      simp only [q, Option.map_some, Option.some.injEq] at h2
      subst h2
      exact ht _ _ _ (ev_of h1 q fun v H1 e1 r1 => h3 _ _ ⟨ow, (h1.mono e1).set ni r1⟩)
theorem ds_asgR {te : TE} {i : Nat} (h : PS X st (tAsg te (gName i))) (ht : ∀ σ H Q, tD f σ H Q → te σ H Q) : PS X st (tDS Ew (setRF i f)) := PS.imp h fun D σ H ⟨H0, S, e, o, h1, h2, h3⟩ => by
  obtain ⟨ow, h1⟩ := h1.rel
  unfold setRF at h2
  cases q : f e.ρ with
  | none => simp [q] at h2
  | some d =>
    simp only [q, Option.map_some, Option.some.injEq] at h2
    subst h2
    exact ht _ _ _ (ev_of h1 q fun v H1 e1 r1 => h3 _ _ ⟨ow, (h1.mono e1).set (fun z => nomatch z) r1⟩)
theorem ds_own {k : Nat} (h : PS X st (tAsg (tLst tNil) (gName k))) : PS X st (tDS Ew (ownF k)) := PS.imp h fun D σ H ⟨H0, S, e, o, ⟨ow, h1⟩, h2, h3⟩ => by
  unfold ownF at h2
  split at h2
  · rename_i hk
    obtain ⟨ho, hk⟩ := hk
    cases h2
    refine ⟨Nat.zero_le _, fun p hp => h3 _ _ ⟨[p], ?_⟩⟩
    have o2 : ow = [] := by
      rcases h1.own with o | ⟨k, p, xs, ds, a1, _⟩
      · exact o.2
      · rw [ho] at a1
        cases a1
    subst o2
    have hz : H0 p = none := by
      cases q : H0 p with
      | none => rfl
      | some o =>
        rw [h1.ex p o q] at hp
        cases hp
    have hl : σ.length = e.ρ.length := by
      have := h1.rep.len
      unfold ES.view at this
      rw [ho] at this
      exact this
    refine ⟨h1.ex.trans (Ex.new hp), h1.ind, fun a m => ?_, fun a m => ?_, ?_, .inr ⟨k, p, [], [], rfl, rfl, upd_same, ?_, ?_, rfl⟩⟩
    · rw [(show a = p by simpa using m)]
      exact hz
    · rw [(show a = p by simpa using m), upd_same]
      exact fun z => nomatch z
    · have q := h1.rep
      unfold ES.view at q ⊢
      rw [ho] at q
      show RepS (hid (upd H p (.lst [])) ([p] ++ S)) (σ.set k (some (.ref p))) ((e.ρ.set k (some (.lst []))).set k none)
      rw [List.set_set, hid_upd (by simp)]
      refine (q.mono ?_).any
      refine hid_more (Ex.refl H) fun a m => ?_
      rcases List.mem_append.mp m with m | m
      · exact .inr (by rw [(show a = p by simpa using m)]; exact hp)
      · exact .inl (by simpa using m)
    · rw [List.getElem?_set_self (by rw [hl]; exact hk)]
    · show (e.ρ.set k (some (.lst [])))[k]? = _
      rw [List.getElem?_set_self hk]
  · cases h2
theorem grow_ok {H0 H H1 : Hp} {S : List Addr} {e : ES} {σ : L2.St} {k : Nat} {p : Addr} {xs ys : List V} {ds l : List D} (h : SR0 H0 S [p] e σ H) (x : Ex H H1) (a1 : e.own = some k) (a3 : H p = some (.lst xs)) (a4 : σ[k]? = some (some (.ref p)))
    (a5 : e.ρ[k]? = some (some (.lst ds))) (a6 : Reps (hid H (p :: S)) ds xs) (r : Reps (hid H1 (p :: S)) l ys) : SR H0 S ⟨some k, e.ρ.set k (some (.lst (ds ++ l)))⟩ σ (upd H1 p (.lst (xs ++ ys))) := by
  have hz : H0 p = none := h.fr p (List.mem_cons_self ..)
  have hk : k < e.ρ.length := (List.getElem?_eq_some_iff.mp a5).1
  refine ⟨[p], Ex.mut (h.ex.trans x) hz, h.ind, h.fr, fun a m => ?_, ?_, .inr ⟨k, p, _, ds ++ l, rfl, rfl, upd_same, a4, ?_, ?_⟩⟩
  · rw [(show a = p by simpa using m), upd_same]
    exact fun z => nomatch z
  · have q := h.rep
    unfold ES.view at q ⊢
    rw [a1] at q
    show RepS _ σ ((e.ρ.set k (some (.lst (ds ++ l)))).set k none)
    rw [List.set_set, hid_upd (by simp)]
    exact q.mono (hid_mono x)
  · show (e.ρ.set k _)[k]? = _
    rw [List.getElem?_set_self hk]
  · rw [hid_upd (List.mem_cons_self ..)]
    exact (a6.mono (hid_mono x)).append r
theorem ds_app {k : Nat} (h : PS X st (tDrop (tBM X.K "list" rAppend (tVar k) (tCons (tD f) tNil)))) : PS X st (tDS Ew (appF k f)) := PS.imp h fun D σ H ⟨H0, S, e, o, ⟨ow, h1⟩, h2, h3⟩ => by
  unfold appF growF at h2
  split at h2
  · rename_i ho
    rcases h1.own with ⟨o1, o2⟩ | ⟨k', p, xs, ds, a1, a2, a3, a4, a5, a6⟩
    · rw [ho] at o1
      cases o1
    · rw [ho] at a1
      cases a1
      subst a2
      simp only [a5] at h2
      unfold oneE at h2
      cases q : f e.view with
      | none => simp [q] at h2
      | some d =>
        simp only [q, Option.map_some, Option.bind_some] at h2
        split at h2
        · rename_i hl
          cases h2
          refine ⟨.ref p, a4, .inl ⟨rfl, xs, sq_of a3⟩, ev_of h1 q fun v H1 e1 r1 => ⟨p, xs, v, rfl, rfl, e1 p _ a3, ?_, h3 _ _ (grow_ok h1 e1 ho a3 a4 a5 a6 (Reps.one r1))⟩⟩
          rw [a6.len]
          exact cap_lt (by simp at hl; omega)
        · cases h2
  · cases h2
theorem ds_ext {k : Nat} (h : PS X st (tDrop (tBM X.K "list" rExtend (tVar k) (tCons (tD f) tNil)))) : PS X st (tDS Ew (growF k (lstE f))) := PS.imp h fun D σ H ⟨H0, S, e, o, ⟨ow, h1⟩, h2, h3⟩ => by
  unfold growF at h2
  split at h2
  · rename_i ho
    rcases h1.own with ⟨o1, o2⟩ | ⟨k', p, xs, ds, a1, a2, a3, a4, a5, a6⟩
    · rw [ho] at o1
      cases o1
    · rw [ho] at a1
      cases a1
      subst a2
      simp only [a5] at h2
      unfold lstE at h2
      cases q : f e.view with
      | none => simp [q] at h2
      | some d =>
        simp only [q, Option.bind_some] at h2
        cases d with
        | lst l =>
          simp only [Option.bind_some] at h2
          split at h2
          · rename_i hl
            cases h2
            refine ⟨.ref p, a4, .inl ⟨rfl, xs, sq_of a3⟩, ev_of h1 q fun v H1 e1 r1 => ?_⟩
            obtain ⟨b, zs, hv, hb, hr⟩ := r1
            refine ⟨p, b, xs, zs, rfl, by rw [hv], e1 p _ a3, hid_sub b _ hb, ?_, h3 _ _ (grow_ok h1 e1 ho a3 a4 a5 a6 hr)⟩
            rw [a6.len, hr.len]
            exact cap_le (by omega)
          · cases h2
        | _ => simp at h2
  · cases h2
theorem ds_ret (h : PE X e (tD f)) : PS X (.Return (some e) pos) (tDS Ew (retF f)) := PS.imp (ps_ret h) fun D σ H ⟨H0, S, e, o, h1, h2, h3⟩ => by
  obtain ⟨ow, h1⟩ := h1.rel
  have o2 : ow = [] := by
    rcases h1.own with o | ⟨k, p, xs, ds, a1, _⟩
    · exact o.2
    · cases a1
  subst o2
  unfold retF at h2
  cases q : f e.ρ with
  | none => simp [q] at h2
  | some d =>
    simp only [q, Option.map_some, Option.some.injEq] at h2
    subst h2
    exact ev_of h1 q fun v H1 e1 r1 => h3 v H1 (h1.ex.trans e1) r1
theorem ds_drop (h : PE X e (tD f)) (hs : swapsWith e none pos.line X.env = pure false := by rfl) : PS X (.Expr e pos) (tDS Ew (dropF f)) := PS.imp (ps_expr h hs) fun D σ H ⟨H0, S, e, o, ⟨ow, h1⟩, h2, h3⟩ => by
  unfold dropF at h2
  cases q : f e.view with
  | none => simp [q] at h2
  | some d =>
    simp only [q, Option.map_some, Option.some.injEq] at h2
    subst h2
    exact ev_of h1 q fun v H1 e1 r1 => h3 _ _ ⟨ow, h1.mono e1⟩
theorem ds_if {t : Expr} {a b : List Stmt} (hc : PT X t (tDT c)) (ha : PSs X a (tDS Ew F)) (hb : PSs X b (tDS Ew G)) : PS X (.If t a b pos) (tDS Ew (ifF c F G)) := PS.imp (ps_if hc ha hb) fun D σ H ⟨H0, S, e, o, ⟨ow, h1⟩, h2, h3⟩ => by
  unfold ifF at h2
  cases q : c e.view with
  | none => simp [q] at h2
  | some k =>
    simp only [q, Option.bind_some] at h2
    refine evT_of h1 q fun H1 e1 => ?_
    cases k with
    | true => exact iteT ⟨H0, S, e, o, ⟨ow, h1.mono e1⟩, by simpa using h2, h3⟩
    | false => exact iteF ⟨H0, S, e, o, ⟨ow, h1.mono e1⟩, by simpa using h2, h3⟩
theorem ds_never : PS X st (tDS Ew neverF) := PS.imp ps_never fun D σ H ⟨H0, S, e, o, h1, h2, h3⟩ => nomatch h2
theorem bdT_view {t : Tg} {d : D} {ρ ρ1 : En} {k : Nat} (hk : k ∉ t.slots) (h : bdT t d ρ = some ρ1) : bdT t d (ρ.set k none) = some (ρ1.set k none) ∧ ρ1[k]? = ρ[k]? := by
  cases t with
  | nm i =>
    have hi : i ≠ k := fun z => hk (by rw [z]; exact List.mem_cons_self ..)
    simp only [bdT, Option.some.injEq] at h ⊢
    subst h
    exact ⟨List.set_comm _ _ hi.symm, List.getElem?_set_ne hi⟩
  | pr i j =>
    have hi : i ≠ k := fun z => hk (by rw [z]; exact List.mem_cons_self ..)
    have hj : j ≠ k := fun z => hk (by rw [z]; exact List.mem_cons_of_mem _ (List.mem_cons_self ..))
    obtain ⟨x, y, rfl, rfl⟩ := bdT_pr h
    simp only [bdT, Option.some.injEq]
    refine ⟨?_, by rw [List.getElem?_set_ne hj, List.getElem?_set_ne hi]⟩
    rw [List.set_comm _ _ hi.symm, List.set_comm _ _ hj.symm]
/-- an item is bound -/
theorem bind_ok {g : TG} {t : Tg} {H0 H : Hp} {S ow : List Addr} {e e1 : ES} {σ : L2.St} {d : D} {x : V} {Q : L2.St → Hp → Prop} (hg : GD g t) (h : SR0 H0 S ow e σ H) (hb : bdS t d e = some e1) (r : Rep (hid H (ow ++ S)) d x) (k : ∀ σ1, SR0 H0 S ow e1 σ1 H → Q σ1 H) : g x σ H Q := by
  unfold bdS at hb
  split at hb
  · cases hb
  · rename_i hno
    cases q : bdT t d e.ρ with
    | none => simp [q] at hb
    | some ρ1 =>
      simp only [q, Option.map_some, Option.some.injEq] at hb
      subst hb
      rcases h.own with ⟨o1, o2⟩ | ⟨k', p, xs, ds, a1, a2, a3, a4, a5, a6⟩
      · have hr := h.rep
        unfold ES.view at hr
        rw [o1] at hr
        refine hg _ d e.ρ ρ1 σ x H Q hr r q fun σ1 hr1 _ _ => k σ1 ⟨h.ex, h.ind, h.fr, h.dom, ?_, .inl ⟨o1, o2⟩⟩
        unfold ES.view
        show RepS _ _ (match e.own with | none => ρ1 | some k => ρ1.set k none)
        rw [o1]
        exact hr1
      · have hk : k' ∉ t.slots := fun m => hno (by rw [a1]; simp [m])
        obtain ⟨v1, v2⟩ := bdT_view hk q
        have hr := h.rep
        unfold ES.view at hr
        rw [a1] at hr
        refine hg _ d (e.ρ.set k' none) (ρ1.set k' none) σ x H Q hr r v1 fun σ1 hr1 _ hs => k σ1 ⟨h.ex, h.ind, h.fr, h.dom, ?_, .inr ⟨k', p, xs, ds, a1, a2, a3, ?_, ?_, a6⟩⟩
        · unfold ES.view
          show RepS _ _ (match e.own with | none => ρ1 | some k => ρ1.set k none)
          rw [a1]
          exact hr1
        · rw [hs k' hk]
          exact a4
        · show ρ1[k']? = _
          rw [v2]
          exact a5
/-- the iterator J gives ds while Bs stands; Bd: what of it is seen -/
def WD2 (J : It) (ds : List D) (Bs Bd : Hp) : Prop := ∀ i H, Ex Bs H →
  (i < ds.length → J.go i H ∧ ∀ x H', J.yld i H x H' → Ex H H' ∧ ∀ S, InD S H → Ex Bd (hid H S) → ∀ d, ds[i]? = some d → Rep (hid H' S) d x) ∧ (ds.length ≤ i → J.stop i H)
theorem WD.two {J : It} {ds : List D} {B Bs : Hp} (h : WD J ds B) (x : Ex B Bs) : WD2 J ds Bs B := fun i H e => h i H (x.trans e)
/-- a for's turns, by data -/
theorem for_core {g : TG} {tb : TS} {t : Tg} {J : It} {ds : List D} {H0 H1 : Hp} {S ow : List Addr} {e : ES} {σ : L2.St} {o : Out} {D : Ends} (hg : GD g t) (hb : ∀ D σ H, tDS Ew F D σ H → tb D σ H) (h1 : SR0 H0 S ow e σ H1) (wd : WD2 J ds (hid H1 ow) (hid H1 (ow ++ S))) (h2 : loopF t F ds e = some o) (h3 : OutOk H0 S Ew D o) :
    ∃ W : Nat → Nat → L2.St → Hp → Prop, (∃ m, W 0 m σ H1) ∧ ∀ i m σ H, W i m σ H → (J.stop i H ∧ D.nx σ H) ∨ (J.go i H ∧ ∃ N : L2.St → Hp → Prop, (∀ σ' H', N σ' H' → ∃ m', m' < m ∧ W (i + 1) m' σ' H') ∧ ∀ x H', J.yld i H x H' → g x σ H' fun σ2 H2 => tb { D with nx := N, ct := N, bk := D.nx } σ2 H2) := by
  obtain ⟨h1s, x0⟩ := h1.up
  have hSs : InD S (hid H1 ow) := h1s.ind
  have hB : Ex (hid H1 (ow ++ S)) (hid H1 ow) := hid_less fun a m => List.mem_append_left _ m
  refine ⟨fun i m σ' H' => m = ds.length - i ∧ i ≤ ds.length ∧ ∃ e', SR (hid H1 ow) S e' σ' H' ∧ loopF t F (ds.drop i) e' = some o, ⟨ds.length, by simp, Nat.zero_le _, e, ⟨ow, h1s⟩, h2⟩, ?_⟩
  rintro i m σ' H' ⟨rfl, hile, e', ⟨ow', hs⟩, hl⟩
  by_cases hlt : i < ds.length
  · refine .inr ⟨((wd i H' hs.ex).1 hlt).1, fun σ2 H2 => ∃ e', SR (hid H1 ow) S e' σ2 H2 ∧ loopF t F (ds.drop (i + 1)) e' = some o, fun σ2 H2 ⟨e2, z1, z2⟩ => ⟨ds.length - (i + 1), by omega, rfl, hlt, e2, z1, z2⟩, fun x H2 hy => ?_⟩
    obtain ⟨e2, hx⟩ := ((wd i H' hs.ex).1 hlt).2 x H2 hy
    have eS : Ex (hid H1 (ow ++ S)) (hid H' (ow' ++ S)) := fun a ob ha => by
      have hna : a ∉ ow ++ S := fun m => by
        unfold hid at ha
        rw [if_pos m] at ha
        cases ha
      have hsa : hid H1 ow a = some ob := hB a ob ha
      refine hid_of (hs.ex a ob hsa) fun m => ?_
      rcases List.mem_append.mp m with m | m
      · rw [hs.fr a m] at hsa
        cases hsa
      · exact hna (List.mem_append_right _ m)
    have hd := hx (ow' ++ S) hs.ind2 eS ds[i] (List.getElem?_eq_getElem hlt)
    rw [drop_get hlt] at hl
    unfold loopF at hl
    cases q1 : bdS t ds[i] e' with
    | none => simp [q1] at hl
    | some e1' =>
      simp only [q1, Option.bind_some] at hl
      cases q2 : F e1' with
      | none => simp [q2] at hl
      | some o1 =>
        simp only [q2, Option.bind_some] at hl
        refine bind_ok hg (hs.mono e2) q1 hd fun σ1 hs1 => hb _ _ _ ⟨hid H1 ow, S, e1', o1, ⟨ow', hs1⟩, q2, ?_⟩
        cases o1 with
        | nx e2' => exact fun σ2 H3 s3 => ⟨e2', s3, hl⟩
        | rt d =>
          cases hl
          exact fun v H3 e3 r3 => h3 v H3 (x0.trans e3) r3
        | ex =>
          cases hl
          exact fun H3 e3 => h3 H3 (x0.trans e3)
  · have ei : i = ds.length := by omega
    subst ei
    rw [List.drop_length] at hl
    simp only [loopF, Option.some.injEq] at hl
    subst hl
    exact .inl ⟨(wd _ H' hs.ex).2 (Nat.le_refl _), h3 _ _ ⟨ow', hs.base x0 h1.ind⟩⟩
/-- the reading of a for, by data -/
theorem for_read {wi : TI} {g : TG} {tb : TS} {fi : En → Option (List D)} {t : Tg} (hi : ∀ σ H R, tDI fi σ H R → wi σ H R) (hg : GD g t) (hb : ∀ D σ H, tDS Ew F D σ H → tb D σ H) (D : Ends) (σ : L2.St) (H : Hp) (h : tDS Ew (forF fi t F) D σ H) : tFor wi g tb D σ H := by
  obtain ⟨H0, S, e, o, ⟨ow, h1⟩, h2, h3⟩ := h
  unfold forF at h2
  cases q : fi e.view with
  | none => simp [q] at h2
  | some ds =>
    simp only [q, Option.bind_some] at h2
    exact hi _ _ _ ⟨e.view, ow ++ S, ds, h1.ind2, h1.rep, q, fun J H1 e1 wd => for_core hg hb (h1.mono e1) (wd.two (hid_less fun a m => List.mem_append_left _ m)) h2 h3⟩
theorem ds_for {tg iter : Expr} {body : List Stmt} {g : TG} {fi : En → Option (List D)} {t : Tg} (hp : PassesOwn (model X.prog X.w) X.A X.env X.xe) (hc : X.calm = true) (hi : PI X tg iter (tDI fi)) (hg : PG X tg g) (hG : GD g t) (hb : PSs X body (tDS Ew F))
    (hs : ∀ x, foldedSetIterable iter X.env x = pure x := by intro _; rfl) : PS X (.For tg iter body [] pos) (tDS Ew (forF fi t F)) :=
  PS.imp (ps_for hp hc hi hg hb hs) fun D σ H h => for_read (fun _ _ _ z => z) hG (fun _ _ _ z => z) D σ H h
theorem ds_while {t : Expr} {body : List Stmt} (n : Nat) (hp : PassesOwn (model X.prog X.w) X.A X.env X.xe) (hc : PT X t (tDT c)) (hb : PSs X body (tDS Ew F)) : PS X (.While t body [] pos) (tDS Ew (whF c F n)) :=
  PS.imp (ps_while hp hc hb) fun D σ H ⟨H0, S, e, o, h1, h2, h3⟩ => by
  refine ⟨fun m σ' H' => ∃ e', SR H0 S e' σ' H' ∧ whF c F m e' = some o, ⟨n, e, h1, h2⟩, ?_⟩
  rintro m σ' H' ⟨e', ⟨ow, hs⟩, hw⟩
  cases m with
  | zero => cases hw
  | succ m =>
    unfold whF at hw
    cases q : c e'.view with
    | none => simp [q] at hw
    | some k =>
      simp only [q, Option.bind_some] at hw
      refine evT_of hs q fun H1 e1 => ?_
      cases k with
      | true =>
        refine iteT ⟨fun σ2 H2 => ∃ e', SR H0 S e' σ2 H2 ∧ whF c F m e' = some o, fun σ2 H2 z => ⟨m, Nat.lt_succ_self _, z⟩, ?_⟩
        simp only [if_true] at hw
        cases q2 : F e' with
        | none => simp [q2] at hw
        | some o1 =>
          simp only [q2, Option.bind_some] at hw
          refine ⟨H0, S, e', o1, ⟨ow, hs.mono e1⟩, q2, ?_⟩
          cases o1 with
          | nx e2 => exact fun σ2 H2 s2 => ⟨e2, s2, hw⟩
          | rt d =>
            cases hw
            exact h3
          | ex =>
            cases hw
            exact h3
      | false =>
        refine iteF ?_
        simp at hw
        subst hw
        exact h3 _ _ ⟨ow, hs.mono e1⟩

/-! ## a def -/
/-- what a def hands back: none where it fails, some none where NotMade is raised -/
def runF (m : Nat) (F : ES → Option Out) (ds : List D) : Option D := (F ⟨none, ds.map some ++ List.replicate (m - ds.length) none⟩).bind fun o => match o with
  | .rt d => some d
  | .nx _ => some .non
  | .ex => none
theorem reps_start {H : Hp} : ∀ {ds : List D} {vs : List V}, Reps H ds vs → ∀ n, RepS H (vs.map some ++ List.replicate n none) (ds.map some ++ List.replicate n none) := fun {ds vs} h n => by
  refine ⟨by rw [List.length_append, List.length_append, List.length_map, List.length_map, h.len, List.length_replicate, List.length_replicate], fun i d hd => ?_⟩
  by_cases hi : i < ds.length
  · rw [List.getElem?_append_left (by rw [List.length_map]; exact hi), List.getElem?_map] at hd
    rw [List.getElem?_append_left (by rw [List.length_map, h.len]; exact hi), List.getElem?_map]
    cases q : ds[i]? with
    | none => simp [q] at hd
    | some d' =>
      simp only [q, Option.map_some, Option.some.injEq] at hd
      subst hd
      obtain ⟨v, g1, g2⟩ := h.get q
      exact ⟨v, by rw [g1]; rfl, g2⟩
  · rw [List.getElem?_append_right (by rw [List.length_map]; omega)] at hd
    rw [List.getElem?_replicate] at hd
    split at hd <;> cases hd
end
section
variable {P : Program} {w : World} {K : PySem.W.Frag} {mg : Str → Option Value} {base : Heap}
theorem fn_data {x qual : Str} {st : Stmt} {f : Addr} {fd : FuncData} {N ps : List Str} {k : Nat} {F : ES → Option Out} (Fn : Fun K x qual st f fd) (S : FnScope N ps (defScope st))
    (hb : ∀ (cdv : Value) (A : Around) (outer : List Env) (s : Shared) (H : Hp) (E : XK), Room k (A.deeper (envOfC qual (defScope st) s.heap.objs.size f cdv)) →
      PSs (cxOf CX0 P w K mg base N qual (defScope st) f cdv A outer s H E).nox (defBody st) (tDS (fun _ => False) F)) : FnOk P w K mg base CX0 (k + 1) f fd ps (spD ps.length (runF N.length F)) := by
  refine Fn.ok S (fun vs H Q E ⟨T, ds, d, h1, h2, h3, _⟩ => by rw [h2.len]; exact h3) fun cdv A outer s H vs Q E hr ⟨T, ds, d, h1, h2, h3, h4, h5⟩ => ⟨_, hb cdv A outer s H E hr, ?_⟩
  unfold runF at h4
  cases q : F ⟨none, ds.map some ++ List.replicate (N.length - ds.length) none⟩ with
  | none => simp [q] at h4
  | some o =>
    simp only [q, Option.bind_some] at h4
    refine ⟨H, T, _, o, SR.start h1 ?_, q, ?_⟩
    · unfold L2.start
      rw [h2.len]
      exact reps_start h2 _
    · cases o with
      | rt d' =>
        cases h4
        exact fun v H' e r => h5 v H' e r
      | nx e' =>
        cases h4
        exact fun σ' H' s' => h5 .non H' (let ⟨_, z⟩ := s'; z.ex) rfl
      | ex => cases h4
theorem cal_data {x : Str} {st : Stmt} {f : Addr} {fd : FuncData} {N ps : List Str} {k : Nat} {F : ES → Option Out} (Fn : Fun K x x st f fd) (hm : mg x = some (.ref f)) (hbd : Binds K fd ps []) (S : FnScope N ps (defScope st))
    (hb : ∀ (cdv : Value) (A : Around) (outer : List Env) (s : Shared) (H : Hp) (E : XK), Room k (A.deeper (envOfC x (defScope st) s.heap.objs.size f cdv)) →
      PSs (cxOf CX0 P w K mg base N x (defScope st) f cdv A outer s H E).nox (defBody st) (tDS (fun _ => False) F)) : C8.Cal P w K mg base (k + 1) x (spD ps.length (runF N.length F)) [] :=
  ⟨f, fd, ps, [], fn_data Fn S hb, hm, Fn.kp, hbd, .nil⟩
end
end DL
end Part_DL4
section Part_DL5
set_option Elab.async false
set_option linter.all false
set_option maxRecDepth 100000
set_option maxHeartbeats 2000000
set_option autoImplicit false
namespace DL
open PySem PySem.Spec PyProof.Rows L2 Evl

/-! ## enumerate of a tuple -/
section
open PySem.Sem (wp)
open AutoSeq1 (wpAny_loadPart')
theorem meets_enumT (l : Addr) (o : Obj) (items : Array Value) (n : Nat) (hc : o.cls = .type "tuple") (hd : o.data = .seq items n) :
    Meets (Builtin.«enumerate.__new__» ⟨[.type "enumerate", .ref l], []⟩) (fun _ R s => s.heap.get? l = some o ∧
      R (.ok (.ret (.ref (s.heap.push { cls := .type "tuple_iterator", data := .fields #[.ref l, .int 0 0] }).objs.size)))
        { s with heap := (s.heap.push { cls := .type "tuple_iterator", data := .fields #[.ref l, .int 0 0] }).push { cls := .type "enumerate", data := .fields #[.none, .bool false, .ref s.heap.objs.size, rawInt 0, .none, .none] } }) :=
  .of_wp fun prog w A R s h => by
    obtain ⟨hp, g, d, tk, os⟩ := s
    obtain ⟨hl, h⟩ := h
    have hsub := sub_enumerate
    have hT : Heap.IsTuple (Shared.heap ⟨hp, g, d, tk, os⟩) l items := ⟨o, hl, hc, n, hd⟩
    wp_walk using wpAny_loadPart' hl
    refine wpAny_stack_any fun st => wpAny_pure ?_
    split
    · rename_i c _ _ _ _ _
      cases (c == Value.type "enumerate")
      · wp_walk using wpAny_loadPart' hl, wpAny_pyIter_tuple hT
        exact ⟨_, rfl, h⟩
      · wp_walk using wpAny_loadPart' hl, wpAny_pyIter_tuple hT
        exact ⟨_, rfl, h⟩
    · wp_walk using wpAny_loadPart' hl, wpAny_pyIter_tuple hT
      exact ⟨_, rfl, h⟩
end
theorem call_enumT {prog : Program} {w : World} {A : Around} {E : Value → Shared → Prop} {s : Shared} {l : Addr} {items : Array Value} {Q : Value → Shared → Prop} (hL : IsTup s.heap l items)
    (h : ∀ h', IsEnum h' (s.heap.objs.size + 1) s.heap.objs.size 0 .none → h'.IsTupleIter s.heap.objs.size l 0 → (∀ b o, s.heap.get? b = some o → h'.get? b = some o) → Q (.ref (s.heap.objs.size + 1)) { s with heap := h' }) :
    wpAny (model prog w) A (call (.type "enumerate") [.ref l]) Q E s := by
  obtain ⟨o, hl, hc, n, hd⟩ := hL
  refine callType_new F.called_enumerate (by decide) (F.typeCall_enumerate_1 _) (F.newCall_enumerate_1 _) (fun obj => F.args_object_init_2 obj _) F.entry_enumerate_new (meets_enumT l o items n hc hd) ⟨hl, ?_⟩
  have hz : (s.heap.push { cls := .type "tuple_iterator", data := .fields #[.ref l, .int 0 0] }).objs.size = s.heap.objs.size + 1 := Heap.size_push ..
  have he : IsEnum ((s.heap.push { cls := .type "tuple_iterator", data := .fields #[.ref l, .int 0 0] }).push { cls := .type "enumerate", data := .fields #[.none, .bool false, .ref s.heap.objs.size, rawInt 0, .none, .none] }) (s.heap.objs.size + 1) s.heap.objs.size 0 .none := by
    have q := Heap.get?_push_size (s.heap.push { cls := .type "tuple_iterator", data := .fields #[.ref l, .int 0 0] }) (o := { cls := .type "enumerate", data := .fields #[.none, .bool false, .ref s.heap.objs.size, rawInt 0, .none, .none] }) rfl
    rw [hz] at q
    exact q
  show _ ∧ _
  rw [hz]
  exact ⟨⟨_, he, rfl⟩, h _ he ⟨_, Heap.get?_push_of_some _ (Heap.get?_push_size _ rfl), rfl, rfl⟩ fun b o x => Heap.get?_push_of_some _ (Heap.get?_push_of_some _ x)⟩
/-- the items of the tuple at a with their places, in new pairs -/
def ItE (K : PySem.W.Frag) (a : Addr) : It :=
  ⟨fun i H => ∃ xs x, SqT K H a xs ∧ xs[i]? = some x, fun i H v H' => ∃ T x, v = .ref T ∧ H T = none ∧ H' = upd H T (.tup [.int (i : Nat), x]) ∧ ∀ xs, SqT K H a xs → xs[i]? = some x, fun i H => ∃ xs, SqT K H a xs ∧ xs.length ≤ i⟩
theorem apart_cls {h : Heap} {a b : Addr} {o u : Obj} (h1 : h.get? a = some o) (h2 : h.get? b = some u) (n : o.cls ≠ u.cls) : a ≠ b := fun e => by
  subst e
  rw [h1] at h2
  cases h2
  exact n rfl
theorem turn_enumT {P : Program} {w : World} {K : PySem.W.Frag} {elts : List Expr} {kk : Nat} {tpos : Pos} (a e it : Addr) :
    Turn P w K (.Tuple elts kk tpos) (ItE K a) [e, it] e (fun i h => (∃ old, IsEnum h e it ((i : Nat) : Int) old) ∧ h.IsTupleIter it a i ∧ e ≠ it) where
  mem := List.mem_cons_self ..
  obj := fun i h st b hb => by
    obtain ⟨⟨old, he⟩, ⟨o, ho, hc, hd⟩, _⟩ := st
    rcases List.mem_cons.mp hb with z | z
    · rw [z]
      exact ⟨_, he, fun v q => nomatch q⟩
    · rw [List.mem_singleton.mp z]
      exact ⟨o, ho, fun v q => by rw [hd] at q; cases q⟩
  keep := fun i h h' st k => let ⟨⟨old, he⟩, hi, hne⟩ := st; ⟨⟨old, k e (List.mem_cons_self ..) _ he⟩, hi.at fun o q => k it (List.mem_cons_of_mem _ (List.mem_singleton.mpr rfl)) o q, hne⟩
  item := by
    intro X hP hw hK hc i pins s σ H E I hf st hg
    subst hP hw hK
    obtain ⟨⟨old, he⟩, hit, hne⟩ := st
    obtain ⟨xs, x, hq, hx⟩ := hg
    obtain ⟨its, rv, p, hz⟩ := I.tuple hq
    obtain ⟨u, hu, ru⟩ := rv.get hx
    have hel : e < s.heap.objs.size := Heap.lt_size he
    have hil : it < s.heap.objs.size := let ⟨_, q, _⟩ := hit; Heap.lt_size q
    obtain ⟨oa, ha, hca, _, _⟩ := id p
    obtain ⟨oi, hoi, hci, _⟩ := id hit
    have ait : a ≠ it := apart_cls ha hoi (by rw [hca, hci]; decide)
    have ea : e ≠ a := apart_cls he ha (by rw [hca]; show Value.type "enumerate" ≠ _; decide)
    have hef : e ∉ [it, a] := fun m => by
      rcases List.mem_cons.mp m with z | z
      · exact hne z
      · exact ea (List.mem_singleton.mp z)
    have hlen : i < its.toArray.size := by
      have := (List.getElem?_eq_some_iff.mp hu).1
      simpa using this
    have DT : Draws X.prog X.w X.A.in1 it [it, a] its.toArray.size (fun i v => its.toArray[i]? = some v) (fun i h => h.IsTupleIter it a i ∧ h.IsTuple a its.toArray) := Draws.tuple (A := X.A.in1) (show X.A.in1.handled = none from I.ok.hd hc) it a ait its.toArray
    refine wpAny_pyNext_enum_itemD DT he ⟨hit, p⟩ hlen hne hef fun y h' tk hy ho hst hT hsz hk => ?_
    have ey : y = u := by
      have hy' : its.toArray[i]? = some y := hy
      have : its[i]? = some y := by simpa using hy'
      rw [hu] at this
      exact (Option.some.inj this).symm
    subst ey
    refine ⟨_, rfl, wpAny_letOwnedTupleGo_enum (s := { s with heap := h', toks := tk + 1 }) ho fun h2 he2 sb => ?_⟩
    have hT2 : h2.get? s.heap.objs.size = some { cls := .type "tuple", data := .seq #[.int i tk, y] } := (sb.2 _ (Nat.ne_of_gt hel)).trans hT
    have new : ObjOk X.prog X.w (upd H s.heap.objs.size (.tup [.int (i : Nat), x])) h2 s.heap.objs.size (.tup [.int (i : Nat), x]) :=
      ⟨show 2 ≤ sizeLine by decide, [.int i tk, y], .cons ⟨_, rfl⟩ (.cons ru .nil), ⟨_, hT2, rfl, _, rfl⟩⟩
    have I1 : Inv X pins σ (upd H s.heap.objs.size (.tup [.int (i : Nat), x])) { s with heap := h2, toks := tk + 1 } :=
      I.turnedNew (ch := [e, it]) (fun b ob hb q => (sb.2 b (fun z => hb (by rw [z]; exact List.mem_cons_self ..))).trans (hk b ob (fun z => hb (by rw [z]; exact List.mem_cons_self ..)) (fun z => hb (by rw [z]; exact List.mem_cons_of_mem _ (List.mem_singleton.mpr rfl))) q)) hf (Nat.le_refl _) new
    refine ⟨.ref s.heap.objs.size, _, I1, rfl, ⟨_, x, rfl, I.hok.fresh (Nat.le_refl _), rfl, fun ys hy => by rw [I.tuple_inj hy hq]; exact hx⟩, ⟨⟨y, ?_⟩, hst.1.at fun o q => (sb.2 it (Ne.symm hne)).trans q, hne⟩, fun b hb => ?_⟩
    · rw [show ((i + 1 : Nat) : Int) = (i : Int) + 1 by omega]
      exact he2
    · have hb' : b < s.heap.objs.size := by
        rcases List.mem_cons.mp hb with z | z
        · rw [z]; exact hel
        · rw [List.mem_singleton.mp z]; exact hil
      rw [upd_ne (Nat.ne_of_lt hb')]
      exact (hf b hb).1
  done := by
    intro X hP hw hK hc i pins s σ H E I hf st hg
    subst hP hw hK
    obtain ⟨⟨old, he⟩, hit, hne⟩ := st
    obtain ⟨xs, hq, hx⟩ := hg
    obtain ⟨its, rv, p, hz⟩ := I.tuple hq
    obtain ⟨f0, f1, f2, f3, f4, f5⟩ := hf it (List.mem_cons_of_mem _ (List.mem_singleton.mpr rfl))
    have hT : s.TypeIs (.ref e) "enumerate" := ⟨_, he, rfl⟩
    have hlen : its.toArray[i]? = none := by
      have hl := rv.length
      simp
      omega
    unfold pyNext
    refine wpAny_bind (wpAny_attempt (wpAny_callSpecial?_slot (name := Str.ofString "__next__") hT PySem.F.slot_enumerate_next (wpAny_call_entry PySem.F.slot_enumerate_next hT PySem.F.entry_enumerate_next ?_ (PySem.F.args_enumerate_next_1 _))))
    show wpAny _ _ (field (.ref e) 2 >>= _) _ _ _
    refine wpAny_bind (wpAny_field he rfl (x := .ref it) rfl ?_)
    refine wpAny_bind (wpAny_nextOf_tuple_end (A := X.A.in1) (I.ok.hd hc) hit p hlen fun h' y he' hy' => ?_)
    obtain ⟨o, ho, hcl⟩ := hy'
    refine wpAny_bind (wpAny_isInstance (T := "StopIteration") (b := true) ⟨o, ho, hcl⟩ isSubtype_stop ?_)
    exact wpAny_pure ⟨rfl, I.turned (t' := s.toks) (fun b o hb q => he' b o hb q) f0 f1 f3 f4 f5⟩
  self := fun A i s Q E st h => let ⟨⟨_, he⟩, _⟩ := st; wpAny_pyIter_enum he h
def iEnT (K : PySem.W.Frag) (ta : TA) : TI := fun σ H R => ta σ H fun vs H1 => ∃ a xs, vs = [.ref a] ∧ SqT K H1 a xs ∧ R (ItE K a) H1
theorem pi_enumT {X : Cx} {e : Expr} {ta : TA} {p pos tpos : Pos} {elts : List Expr} {kk : Nat} (hg : Gl X "enumerate") (hm : X.mg "enumerate" = none) (ha : PA X [e] ta) (hs : starEach [e] X.env = [(false, eval e X.env)] := by rfl) :
    PI X (.Tuple elts kk tpos) (.Call (.Name "enumerate" p) [e] [] pos) (iEnT X.K ta) := by
  refine ⟨fun pins s σ H R I h => ?_⟩
  refine Call_ (ld_blt I hg hm boot_enumerate (PyProof.Rows.callWith_type1 (thn (ha.run pos pins s σ H _ I h) fun us s1 ⟨vs, H1, I1, r1, a, xs, ex, hq, q⟩ => ?_) hs rfl))
  subst ex
  cases r1 with
  | cons r rr =>
    cases rr
    cases r
    obtain ⟨its, rv, tp, hz⟩ := I1.tuple hq
    refine call_enumT tp fun h' he hit hk => wpAny_pyIter_enum he ?_
    have I2 : Inv X pins σ H1 { s1 with heap := h' } := I1.kept (t' := s1.toks) hk
    refine ⟨s1.heap.objs.size + 1, [s1.heap.objs.size + 1, s1.heap.objs.size], _, _, H1, rfl, I2, turn_enumT a (s1.heap.objs.size + 1) s1.heap.objs.size, ⟨⟨.none, he⟩, hit, Nat.succ_ne_self _⟩, fun b hb => ?_, q⟩
    have hle : s1.heap.objs.size ≤ b := by
      rcases List.mem_cons.mp hb with z | z
      · rw [z]; exact Nat.le_add_right _ _
      · rw [List.mem_singleton.mp z]; exact Nat.le_refl _
    exact I1.fpOk hle (I1.hok.fresh hle)
def enD (ds : List D) : List D := (List.range ds.length).zipWith (fun i d => D.tup [.int (i : Nat), d]) ds
theorem enD_len (ds : List D) : (enD ds).length = ds.length := by
  unfold enD
  rw [List.length_zipWith, List.length_range, Nat.min_self]
theorem enD_get {ds : List D} {i : Nat} {d : D} (h : (enD ds)[i]? = some d) : ∃ x, ds[i]? = some x ∧ d = .tup [.int (i : Nat), x] := by
  unfold enD at h
  rw [List.getElem?_zipWith] at h
  cases q : ds[i]? with
  | none =>
    rw [q] at h
    split at h
    · rename_i h1 h2
      cases h2
    · cases h
  | some x =>
    have hi := (List.getElem?_eq_some_iff.mp q).1
    rw [q, List.getElem?_range hi] at h
    exact ⟨x, rfl, (Option.some.inj h).symm⟩
theorem wd_enT {K : PySem.W.Frag} {B : Hp} {a : Addr} {vs : List V} {ds : List D} (ha : B a = some (.tup vs)) (hr : Reps B ds vs) : WD (ItE K a) (enD ds) B := fun i H e => by
  rw [enD_len]
  refine ⟨fun hi => ?_, fun hi => ⟨vs, st_of (e a _ ha), by rw [hr.len]; exact hi⟩⟩
  have hv : i < vs.length := by rw [hr.len]; exact hi
  refine ⟨⟨vs, vs[i], st_of (e a _ ha), List.getElem?_eq_getElem hv⟩, fun x H' hy => ?_⟩
  obtain ⟨T, x', hx0, hT, rfl, hx⟩ := hy
  refine ⟨Ex.new hT, fun S hS eB d hd => ?_⟩
  obtain ⟨y, g0, rfl⟩ := enD_get hd
  obtain ⟨v, g1, g2⟩ := hr.get g0
  have gx := hx vs (st_of (e a _ ha))
  rw [g1] at gx
  cases gx
  refine ⟨T, [.int (i : Nat), x'], hx0, hid_new hS hT, .int (i : Nat), [x'], rfl, rfl, x', [], rfl, ?_, rfl⟩
  exact (g2.mono eB).mono (hid_mono (Ex.new hT))
def enE (f : En → Option (List D)) : En → Option (List D) := fun ρ => (f ρ).bind fun l => match l with
  | [.tup ds] => some (enD ds)
  | _ => none
section
variable {X : Cx} {a b c e : Expr} {fa fb fc : En → Option D} {pos p tpos : Pos}
theorem di_enT {g : En → Option (List D)} {elts : List Expr} {kk : Nat} (hg : Gl X "enumerate") (hm : X.mg "enumerate" = none) (ha : PA X [e] (tDA g)) (hs : starEach [e] X.env = [(false, eval e X.env)] := by rfl) :
    PI X (.Tuple elts kk tpos) (.Call (.Name "enumerate" p) [e] [] pos) (tDI (enE g)) := PI.imp (pi_enumT hg hm ha hs) fun σ H R ⟨ρ, S, ds, hS, hp, hf, hq⟩ => by
  unfold enE at hf
  cases q : g ρ with
  | none => simp [q] at hf
  | some l =>
    simp only [q, Option.bind_some] at hf
    split at hf
    · rename_i ts
      cases hf
      refine ⟨ρ, S, _, hS, hp, q, fun vs H1 e1 r1 => ?_⟩
      obtain ⟨x, t, hv, ⟨a, xs, hx, ha, hr⟩, h2⟩ := r1
      cases (show t = [] from h2)
      subst hx
      exact ⟨a, xs, hv, st_of (hid_sub a _ ha), hq _ H1 e1 (wd_enT ha hr)⟩
    · cases hf

/-! ## isinstance -/
def tyN : D → String
  | .non => "NoneType"
  | .bl _ => "bool"
  | .int _ => "int"
  | .lst _ => "list"
  | .tup _ => "tuple"
  | .dic _ => "dict"
  | .adr _ _ => "?"
def isA : D → Bool
  | .adr _ _ => true
  | _ => false
theorem ty_of {K : PySem.W.Frag} {H : Hp} {d : D} {v : V} (na : isA d = false) (h : Rep H d v) : TyX K H v (.type (tyN d)) := by
  cases d with
  | non => cases (show v = V.non from h); exact .base .non
  | bl b => cases (show v = V.bl b from h); exact .base (.bl b)
  | int i => cases (show v = V.int i from h); exact .base (.int i)
  | lst l =>
    obtain ⟨a, xs, hv, ha, _⟩ := h
    subst hv
    exact .base (.lst ha)
  | tup l =>
    obtain ⟨a, xs, hv, ha, _⟩ := h
    subst hv
    exact .base (.tup ha)
  | dic l =>
    obtain ⟨a, hv, ha⟩ := h
    subst hv
    exact .base (.dK ha)
  | adr a o => cases na
def isiE (T : String) (f : En → Option D) : En → Option D := fun ρ => (f ρ).bind fun d => if isA d = true then none else (kitB (tyN d) T).map D.bl
theorem de_isi {T : String} {q1 : Pos} (hg : Gl X "isinstance") (hm : X.mg "isinstance" = none) (ha : PE X a (tD fa)) (hT : PE X b (tC (.ty T))) (hs : starEach [a, b] X.env = (false, eval a X.env) :: starEach [b] X.env := by rfl) (hs2 : starEach [b] X.env = (false, eval b X.env) :: starEach [] X.env := by rfl)
    (hpl : (backTo pos (starEach [b] X.env)).any (·.1) = false := by rfl) : PE X (.Call (.Name "isinstance" q1) [a, b] [] pos) (tD (isiE T fa)) :=
  PE.imp (pe_callB call_isi hg hm boot_isinstance (pa_cons ha (pa_cons hT pa_nil hs2) hs) (by decide) (by decide) hs hpl) fun σ H Q h => by
  obtain ⟨ρ, S, d, hS, hp, hf, hq⟩ := h
  unfold isiE at hf
  cases q : fa ρ with
  | none => simp [q] at hf
  | some dx =>
    simp only [q, Option.bind_some] at hf
    cases na : isA dx with
    | true => simp [na] at hf
    | false =>
    simp only [na, Bool.false_eq_true, if_false] at hf
    cases k : kitB (tyN dx) T with
    | none => simp [k] at hf
    | some r =>
      simp only [k, Option.map_some, Option.some.injEq] at hf
      subst hf
      exact ⟨ρ, S, dx, hS, hp, q, fun v H1 e1 r1 => ⟨v, .ty T, .type (tyN dx), .type T, r, rfl, .ty T, ty_of na (r1.mono hid_sub), kit_ty k, hq _ H1 e1 rfl⟩⟩
def kitT (n : String) : List String → Option Bool
  | [] => some false
  | T :: r => (kitB n T).bind fun k => if k = true then some true else kitT n r
def isiTE (Ts : List String) (f : En → Option D) : En → Option D := fun ρ => (f ρ).bind fun d => if isA d = true then none else (kitT (tyN d) Ts).map D.bl
theorem kitT_any {K : PySem.W.Frag} {n : String} : ∀ {Ts : List String} {b : Bool}, kitT n Ts = some b → PySem.W.kitAny K (.type n) (Ts.map Value.type) = some b
  | [], b, h => h
  | T :: r, b, h => by
    unfold kitT at h
    cases k : kitB n T with
    | none => simp [k] at h
    | some v =>
      simp only [k, Option.bind_some] at h
      rw [List.map_cons]
      unfold PySem.W.kitAny
      rw [kit_ty k]
      cases v with
      | true => exact h
      | false => exact kitT_any (by simpa using h)
theorem paired_cls : ∀ Ts : List String, Paired ClsV (Ts.map V.ty) (Ts.map Value.type)
  | [] => .nil
  | T :: r => .cons (.ty T) (paired_cls r)
/-- isinstance(e, (S, T)) -/
theorem de_isiT {S T : String} {es1 es2 : Expr} {k1 : Nat} {q1 q2 : Pos} (hg : Gl X "isinstance") (hm : X.mg "isinstance" = none) (ha : PE X a (tD fa)) (h1 : PE X es1 (tC (.ty S))) (h2 : PE X es2 (tC (.ty T)))
    (hs : starEach [a, .Tuple [es1, es2] k1 q2] X.env = (false, eval a X.env) :: starEach [.Tuple [es1, es2] k1 q2] X.env := by rfl) (hs2 : starEach [.Tuple [es1, es2] k1 q2] X.env = (false, eval (.Tuple [es1, es2] k1 q2) X.env) :: starEach [] X.env := by rfl)
    (hs3 : starEach [es1, es2] X.env = (false, eval es1 X.env) :: starEach [es2] X.env := by rfl) (hs4 : starEach [es2] X.env = (false, eval es2 X.env) :: starEach [] X.env := by rfl)
    (hpl : (backTo pos (starEach [.Tuple [es1, es2] k1 q2] X.env)).any (·.1) = false := by rfl) : PE X (.Call (.Name "isinstance" q1) [a, .Tuple [es1, es2] k1 q2] [] pos) (tD (isiTE [S, T] fa)) :=
  PE.imp (pe_callB call_isiT hg hm boot_isinstance (pa_cons ha (pa_cons (pe_tup (pa_cons h1 (pa_cons h2 pa_nil hs4) hs3)) pa_nil hs2) hs) (by decide) (by decide) hs hpl) fun σ H Q h => by
  obtain ⟨ρ, R, d, hS, hp, hf, hq⟩ := h
  unfold isiTE at hf
  cases q : fa ρ with
  | none => simp [q] at hf
  | some dx =>
    simp only [q, Option.bind_some] at hf
    cases na : isA dx with
    | true => simp [na] at hf
    | false =>
    simp only [na, Bool.false_eq_true, if_false] at hf
    cases k : kitT (tyN dx) [S, T] with
    | none => simp [k] at hf
    | some r =>
      simp only [k, Option.map_some, Option.some.injEq] at hf
      subst hf
      refine ⟨ρ, R, dx, hS, hp, q, fun v H1 e1 r1 => ⟨show 2 ≤ sizeLine by decide, fun p hp => ?_⟩⟩
      exact ⟨v, p, [.ty S, .ty T], .type (tyN dx), [.type S, .type T], r, rfl, upd_same, paired_cls [S, T], ty_of na (r1.mono (fun b o z => (Ex.new hp) b o (hid_sub b o z))), kitT_any k, hq _ _ (e1.trans (Ex.new hp)) rfl⟩
end
end DL
end Part_DL5
section Part_DL6
set_option Elab.async false
set_option linter.all false
set_option maxRecDepth 100000
set_option maxHeartbeats 4000000
set_option autoImplicit false
namespace DL
open PySem PySem.Spec PyProof.Rows L2 Evl

/-! ## set(xs) of a list of whole numbers -/
/-- a set as it is made -/
abbrev nSet (w : World) : Obj := { cls := .type "set", dict := none, data := .set #[] 0 (.fresh 0 0 (!w.params.followText "set-order")) }
section
variable {P : Program} {w : World} {A : Around} {E : Value → Shared → Prop} {s : Shared}
theorem set_filled {B : Around} {Hq : Heap} {a l I : Addr} {its : Array Value} {ns : List Int} {g : Array GenState} {d : Drawn} {tq : Nat} {os : OsState} {R : Result → Shared → Prop} (hh : B.in1.handled = none) (h1 : Hq.IsListIter I l 0) (h2 : Hq.IsList l its) (li : l ≠ I) (al : a ≠ l) (aI : a ≠ I)
    (ho : Hq.get? a = some (nSet w)) (hi : IntsAre its.toList ns) (hb : ns.length + 1 < scanBound)
    (hR : ∀ h2 t2 c, SetR w h2 a (fun j => decide (j ∈ ns)) c → c ≤ ns.length → (∀ b o, b ≠ a → b ≠ I → Hq.get? b = some o → h2.get? b = some o) → R (.ok (.ret .none)) ⟨h2, g, d, t2, os⟩) :
    codeAny (model P w) B (.builtin "set.update.loop" ⟨[.ref a, .ref I], []⟩) R ⟨Hq, g, d, tq, os⟩ := by
  have hz : its.size = ns.length := (Array.length_toList (xs := its)).symm.trans (IntsAre.length hi)
  have hv : ∀ (i : Nat) (v : Value), its[i]? = some v → ∃ k t, ns[i]? = some k ∧ v = .int k t := fun i v q => by
    have hl : i < ns.length := by rw [← hz]; exact (Array.getElem?_eq_some_iff.mp q).1
    obtain ⟨t, e⟩ := PyProof.Rows.IntsAre.int_at hi i v (by rw [Array.getElem?_toList]; exact q)
    refine ⟨ns[i], t, List.getElem?_eq_getElem hl, ?_⟩
    rw [e, List.getD_eq_getElem?_getD, List.getElem?_eq_getElem hl] <;> rfl
  have nm : a ∉ [I, l] := fun m => by
    rcases List.mem_cons.mp m with e | m
    · exact aI e
    · exact al (List.mem_singleton.mp m)
  refine set_update_ints ((Walks.list hh I l li its).toS) a nm ns hz hb hv (its.size - 0) 0 _ (by omega) (Nat.zero_le _) ⟨h1, h2⟩ ⟨0, Nat.le_refl 0, setR_new_at ho⟩ fun s2 c hm hc hS => ?_
  obtain ⟨h3, g3, d3, t3, o3⟩ := s2
  obtain rfl : g3 = g := hm.gens
  obtain rfl : d3 = d := hm.drawn
  obtain rfl : o3 = os := hm.os
  refine hR h3 t3 c hS (by rw [← hz]; exact hc) fun b o n1 n2 q => hm.heap b o (fun m => ?_) q
  rcases List.mem_cons.mp m with e | m
  · exact n1 e
  · exact n2 (List.mem_singleton.mp m)
set_option maxHeartbeats 6400000 in
theorem call_set_listI {l : Addr} {its : Array Value} (ns : List Int) {Q : Value → Shared → Prop} (hh : A.handled = none) (hl : s.heap.IsList l its) (hi : IntsAre its.toList ns) (hb : ns.length + 1 < scanBound)
    (h : ∀ (h2 : Heap) (t2 c : Nat), SetR w h2 s.heap.objs.size (fun j => decide (j ∈ ns)) c → c ≤ ns.length → (∀ b o, s.heap.get? b = some o → h2.get? b = some o) → Q (.ref s.heap.objs.size) { s with heap := h2, toks := t2 }) :
    wpAny (model P w) A (call (.type "set") [.ref l]) Q E s := by
  obtain ⟨cq, tlq, hmro⟩ := F.called_set.mro
  have hmd := F.called_set.made
  have hsb := F.called_set.sub
  refine wpAny_call (codeAny_of_tree ?_)
  show wpAny _ _ (callAny (.type "set") ⟨[.ref l], []⟩) _ _ _
  refine wpAny_pure ⟨Code.quiet_builtin _ (by decide +kernel), codeAny_builtin F.entry_type_call ?_⟩
  rw [Around.under_plain (weight_type_call_type "set" [.ref l] ([] : List (Str × Value))) rfl]
  have k1 := F.called_set.notType
  have k2 := F.called_set.canCreate
  have k3 := F.typeCall_set_1 (.ref l)
  repeat (any_goals (first | assumption | wp_step))
  refine codeAny_mono (code_set_led1 (.ref l) (E := E) (Q₁ := fun obj s1 => obj = .ref s.heap.objs.size ∧ s1 = { s with heap := s.heap.push (nSet w) }) ⟨rfl, rfl⟩) fun r s1 hr => ?_
  cases r with
  | error e => exact hr
  | ok fl =>
    cases fl with
    | ret obj =>
      obtain ⟨rfl, rfl⟩ := hr
      have oS : (s.heap.push (nSet w)).get? s.heap.objs.size = some (nSet w) := Heap.get?_push_size _ rfl
      have oT : Shared.TypeIs { s with heap := s.heap.push (nSet w) } (.ref s.heap.objs.size) "set" := ⟨_, oS, rfl⟩
      have k4 := F.called_set.init.lookup
      have k5 := F.called_set.init.bind (.ref s.heap.objs.size)
      repeat (any_goals (first | assumption | wp_step))
      refine codeAny_mono (codeAny_call_builtin (R := wants (fun r s2 => r = .none ∧ ∃ h2 t2 c, s2 = { s with heap := h2, toks := t2 } ∧ SetR w h2 s.heap.objs.size (fun j => decide (j ∈ ns)) c ∧ c ≤ ns.length ∧ ∀ b o, s.heap.get? b = some o → h2.get? b = some o) E) F.called_set.init.plain F.entry_set_init (check_set_init_1 oT ?_)) fun r2 s2 hr2 => ?_
      · obtain ⟨⟨c0, dd0, dt0, sl0⟩, ol, hcl, n0, hdl⟩ := hl
        simp only at hcl hdl
        subst hcl; subst hdl
        have ol2 : (s.heap.push (nSet w)).get? l = some { cls := .type "list", dict := dd0, data := .seq its n0, slots := sl0 } := Heap.get?_push_of_some _ ol
        have hl2 : (s.heap.push (nSet w)).IsList l its := ⟨_, ol2, rfl, n0, rfl⟩
        have f1 := F.sub_list_set
        have f2 := F.sub_list_frozenset
        have f3 : (Value.type "list" == Value.type "dict") = false := by decide
        unfold Builtin.«set.__init__» noKeywords Builtin.Frozenset.updateFrom
        generalize hPI : pyIter = PI
        wp_walk
        subst hPI
        refine wpAny_pyIter_list hl2 (wpAny_bind (wpAny_runValue ?_))
        have l0 : l < s.heap.objs.size := Heap.lt_size ol
        have z1 : (s.heap.push (nSet w)).objs.size = s.heap.objs.size + 1 := Heap.size_push ..
        refine set_filled (by simp [hh]) ⟨_, Heap.get?_push_size _ rfl, rfl, rfl⟩ (hl2.push _) (by rw [z1]; exact Nat.ne_of_lt (Nat.lt_succ_of_lt l0)) (Nat.ne_of_gt l0) (by rw [z1]; exact Nat.ne_of_lt (Nat.lt_succ_self _)) (Heap.get?_push_of_some _ oS) hi hb fun h2 t2 c q1 q2 q3 => ?_
        show wpAny _ _ _ _ _ _
        refine wpAny_pure ?_
        show wpAny _ _ (ret Value.none) _ _ _
        refine wpAny_pure ⟨rfl, h2, t2, c, rfl, q1, q2, fun b o e => ?_⟩
        have b0 : b < s.heap.objs.size := Heap.lt_size e
        exact q3 b o (Nat.ne_of_lt b0) (by rw [z1]; exact Nat.ne_of_lt (Nat.lt_succ_of_lt b0)) (Heap.get?_push_of_some _ (Heap.get?_push_of_some _ e))
      · cases r2 with
        | error e => exact hr2
        | ok fl2 =>
          cases fl2 with
          | ret r =>
            obtain ⟨rfl, h2, t2, c, rfl, q1, q2, q3⟩ := hr2
            repeat (any_goals (first | assumption | wp_step))
            exact h _ _ _ q1 q2 q3
          | _ => exact hr2.elim
    | _ => exact hr.elim
end
section
variable {X : Cx}
theorem nodup_le : ∀ {l us : List Int}, l.Nodup → (∀ k ∈ l, k ∈ us) → l.length ≤ us.length
  | [], _, _, _ => Nat.zero_le _
  | x :: l, us, hn, hm => by
    rw [List.nodup_cons] at hn
    have mx : x ∈ us := hm x (List.mem_cons_self ..)
    have ih := nodup_le (l := l) (us := us.erase x) hn.2 fun k hk => (List.mem_erase_of_ne fun e => hn.1 (by rw [← e]; exact hk)).mpr (hm k (List.mem_cons_of_mem _ hk))
    rw [List.length_erase_of_mem mx] at ih
    have : 0 < us.length := List.length_pos_of_mem mx
    rw [List.length_cons]
    omega
/-- set(xs), xs a list or a tuple of whole numbers -/
def rSetI (K : PySem.W.Frag) (w : World) : List V → Hp → VK → Prop := fun vs H Q => ∃ (l : Addr) (ns : List Int), vs = [.ref l] ∧ (SqL K H l (ns.map V.int) ∨ SqT K H l (ns.map V.int)) ∧ ns.length < 4000 ∧
  ∀ a n, H a = none → (∀ us : List Int, (∀ k ∈ ns, k ∈ us) → n ≤ us.length) → Q (.ref a) (upd H a (SetO w a (fun j => decide (j ∈ ns)) n))
theorem cr_setI (hc : X.calm = true) : CallR X (.type "set") (rSetI X.K X.w) := by
  intro pins s σ H vs us Q I r h
  obtain ⟨l, ns, rfl, hs, hl, q⟩ := h
  rw [Vals.ref1 r]
  have hb : ns.length + 1 < scanBound := by unfold scanBound; omega
  have fin : ∀ (h2 : Heap) (t2 c : Nat), SetR X.w h2 s.heap.objs.size (fun j => decide (j ∈ ns)) c → c ≤ ns.length → (∀ b o, s.heap.get? b = some o → h2.get? b = some o) → EP X pins σ Q (.ref s.heap.objs.size) { s with heap := h2, toks := t2 } := fun h2 t2 c R hcn k => by
    refine ⟨.ref s.heap.objs.size, _, I.laid k (Nat.le_refl _) (setO_new R), rfl, q _ c (I.hok.fresh (Nat.le_refl _)) fun us hus => ?_⟩
    obtain ⟨o, es, ep, t, _, _, _, _, nd, hS, _, _, hsz, _⟩ := R
    have z := nodup_le (us := us) nd fun k hk => hus k (of_decide_eq_true ((hS k).mpr hk))
    rw [List.length_map, Array.length_toList, hsz] at z
    exact z
  rcases hs with hs | hs
  · obtain ⟨its, rv, pl, hz⟩ := I.list hs
    exact call_set_listI ns (I.ok.hd hc) pl.isList (by simpa using ints_of_vals rv) hb fin
  · obtain ⟨its, rv, pl, hz⟩ := I.tuple hs
    exact call_set_tupI ns (I.ok.hd hc) pl (by simpa using ints_of_vals rv) hb fin
/-- the numbers of a list, each once, ascending -/
def usort : List Int → List Int
  | [] => []
  | n :: r => if n ∈ r then usort r else ins n (usort r)
theorem usort_mem (k : Int) : ∀ l : List Int, k ∈ usort l ↔ k ∈ l
  | [] => Iff.rfl
  | n :: r => by
    unfold usort
    split
    · rename_i hn
      rw [usort_mem k r]
      refine ⟨fun h => List.mem_cons_of_mem _ h, fun h => ?_⟩
      rcases List.mem_cons.mp h with e | h
      · rw [e]; exact hn
      · exact h
    · rw [(ins_perm n (usort r)).mem_iff, List.mem_cons, List.mem_cons, usort_mem k r]
theorem ins_lt (n : Int) : ∀ {l : List Int}, l.Pairwise (· < ·) → n ∉ l → (ins n l).Pairwise (· < ·)
  | [], _, _ => by simp [ins]
  | m :: r, h, hn => by
    rw [List.pairwise_cons] at h
    rw [List.mem_cons, not_or] at hn
    unfold ins
    split
    · rename_i hm
      rw [List.pairwise_cons, List.pairwise_cons]
      refine ⟨fun x hx => ?_, h.1, h.2⟩
      rcases List.mem_cons.mp hx with e | hx
      · rw [e]
        have := hn.1
        omega
      · have := h.1 x hx
        omega
    · rename_i hm
      rw [List.pairwise_cons]
      refine ⟨fun x hx => ?_, ins_lt n h.2 hn.2⟩
      rcases List.mem_cons.mp ((ins_perm n r).mem_iff.mp hx) with e | hx
      · rw [e]; omega
      · exact h.1 x hx
theorem usort_lt : ∀ l : List Int, (usort l).Pairwise (· < ·)
  | [] => .nil
  | n :: r => by
    unfold usort
    split
    · exact usort_lt r
    · rename_i hn
      exact ins_lt n (usort_lt r) fun h => hn ((usort_mem n r).mp h)
theorem lt_uniq : ∀ {a b : List Int}, (∀ k, k ∈ a ↔ k ∈ b) → a.Pairwise (· < ·) → b.Pairwise (· < ·) → a = b
  | [], [], _, _, _ => rfl
  | [], y :: b, h, _, _ => by
    have := (h y).mpr (List.mem_cons_self ..)
    cases this
  | x :: a, [], h, _, _ => by
    have := (h x).mp (List.mem_cons_self ..)
    cases this
  | x :: a, y :: b, h, h1, h2 => by
    rw [List.pairwise_cons] at h1 h2
    have e : x = y := by
      have m1 : x ∈ y :: b := (h x).mp (List.mem_cons_self ..)
      have m2 : y ∈ x :: a := (h y).mpr (List.mem_cons_self ..)
      rcases List.mem_cons.mp m1 with e | m1
      · exact e
      · rcases List.mem_cons.mp m2 with e | m2
        · exact e.symm
        · have a1 := h1.1 y m2
          have a2 := h2.1 x m1
          omega
    subst e
    refine congrArg _ (lt_uniq (fun k => ⟨fun hk => ?_, fun hk => ?_⟩) h1.2 h2.2)
    · have := (h k).mp (List.mem_cons_of_mem _ hk)
      rcases List.mem_cons.mp this with e | q
      · have := h1.1 k hk
        omega
      · exact q
    · have := (h k).mpr (List.mem_cons_of_mem _ hk)
      rcases List.mem_cons.mp this with e | q
      · have := h2.1 k hk
        omega
      · exact q
def usortE (f : En → Option D) : En → Option D := fun ρ => (f ρ).bind fun d => (itemsD d).bind fun ds => (intsOf ds).bind fun ns => if ns.length < 4000 ∧ (usort ns).length < 64 then some (.lst ((usort ns).map D.int)) else none
variable {a b c e : Expr} {fa fb fc : En → Option D} {pos p p2 q : Pos}
/-- sorted(set(e)), e a list or a tuple of whole numbers -/
theorem de_usort (hc : X.calm = true) (hg : Gl X "sorted") (hm : X.mg "sorted" = none) (hg2 : Gl X "set") (hm2 : X.mg "set" = none) (ha : PE X a (tD fa))
    (hs : starEach [a] X.env = (false, eval a X.env) :: starEach [] X.env := by rfl) (hs2 : starEach [.Call (.Name "set" p2) [a] [] q] X.env = (false, eval (.Call (.Name "set" p2) [a] [] q) X.env) :: starEach [] X.env := by rfl) :
    PE X (.Call (.Name "sorted" p) [.Call (.Name "set" p2) [a] [] q] [] pos) (tD (usortE fa)) :=
  PE.imp (pe_callB (cr_sortedSet hc) hg hm (by decide +kernel) (pa_cons (pe_callTy (cr_setI hc) hg2 hm2 (by decide +kernel) (pa_cons ha pa_nil hs) (by decide) (by decide) hs rfl) pa_nil hs2) (by decide) (by decide) hs2 rfl) fun σ H Q ⟨ρ, S, d, hS, hp, hf, hq⟩ => by
  unfold usortE at hf
  cases q1 : fa ρ with
  | none => simp [q1] at hf
  | some dx =>
    simp only [q1, Option.bind_some] at hf
    cases q2 : itemsD dx with
    | none => simp [q2] at hf
    | some ds =>
      simp only [q2, Option.bind_some] at hf
      cases q3 : intsOf ds with
      | none => simp [q3] at hf
      | some ns =>
        simp only [q3, Option.bind_some] at hf
        split at hf
        · rename_i hl
          cases hf
          have e := intsOf_some q3
          refine ⟨ρ, S, dx, hS, hp, q1, fun v H1 e1 r1 => ?_⟩
          have key : ∃ l, v = .ref l ∧ (SqL X.K H1 l (ns.map V.int) ∨ SqT X.K H1 l (ns.map V.int)) := by
            cases dx with
            | lst l =>
              simp only [itemsD, Option.some.injEq] at q2
              subst q2 e
              obtain ⟨a, xs, hv, ha, hr⟩ := r1
              cases reps_ints hr
              exact ⟨a, hv, .inl (sq_of (hid_sub a _ ha))⟩
            | tup l =>
              simp only [itemsD, Option.some.injEq] at q2
              subst q2 e
              obtain ⟨a, xs, hv, ha, hr⟩ := r1
              cases reps_ints hr
              exact ⟨a, hv, .inr (st_of (hid_sub a _ ha))⟩
            | _ => simp [itemsD] at q2
          obtain ⟨l, hv, hsq⟩ := key
          refine ⟨l, ns, by rw [hv], hsq, hl.1, fun t n ht hn => ⟨t, _, n, rfl, upd_same, Nat.lt_of_le_of_lt (hn _ fun k hk => (usort_mem k ns).mpr hk) hl.2, fun ms z hup hmem _ hz => ?_⟩⟩
          have em : ms = usort ns := lt_uniq (fun k => by rw [hmem k, usort_mem, decide_eq_true_eq]) hup (usort_lt ns)
          subst em
          have e2 : Ex H1 (upd H1 t (SetO X.w t (fun j => decide (j ∈ ns)) n)) := Ex.new ht
          exact hq _ _ ((e1.trans e2).trans (Ex.new hz)) (new_lst ((hS.mono e1).mono e2) hz (ints_reps _))
        · cases hf
end
end DL
end Part_DL6
section Part_DL7
set_option Elab.async false
set_option linter.all false
set_option maxRecDepth 100000
set_option maxHeartbeats 4000000
set_option autoImplicit false
namespace DL
open PySem PySem.Spec PyProof.Rows L2 Evl

/-! ## {**d, k: v} -/
section
variable {P : Program} {w : World} {A : Around} {E : Value → Shared → Prop} {s : Shared}
theorem put_new {K : Type} [DecidableEq K] {knd : PySem.KeyKind P w K} {d : Addr} {kvs : List (K × Value)} {k : K} {key v : Value} {Q : Unit → Shared → Prop} (hkey : knd.is k key = true) (hm : s.heap.DictOf knd d kvs) (hf : k ∉ kvs.map (·.1)) (hz : kvs.length ≤ sizeLine)
    (hQ : ∀ h2, h2.DictOf knd d (kvs ++ [(k, v)]) → Heap.SameBut d s.heap h2 → Q () { s with heap := h2 }) : wpAny (model P w) A (dictPut d (knd.hash k) key v) Q E s := by
  obtain ⟨o, es, ep, ho, hc, hd, hk, hp, hn⟩ := hm
  have hes : es.size ≤ sizeLine := by
    have e1 := hp.length
    rw [Array.length_toList] at e1
    omega
  have hno : (es.findIdx? fun e => knd.is k e.key) = none := by
    have e1 := hp.findIdx k
    have e2 : (kvs.findIdx? fun kv => decide (kv.1 = k)) = none := by
      rw [List.findIdx?_eq_none_iff]
      intro x hx
      exact decide_eq_false fun e => hf (List.mem_map.mpr ⟨x, hx, e⟩)
    rw [e2] at e1
    obtain ⟨l⟩ := es
    simpa using e1
  unfold dictPut
  refine wpAny_bind (wpAny_dictFind_of hkey ho hd hk ?_)
  rw [hno]
  refine wpAny_updateDictKeys (hz := hes) ho hd (hQ _ ⟨_, _, ep + 1, Heap.get?_update_self _ ho (Obj.isFreed_of_dict (Obj.data_mapDictKeys hd _)), hc.mapDictKeys _, Obj.data_mapDictKeys hd _, hk.push hkey _, ?_, ?_⟩ (Heap.SameBut.update ..))
  · have e1 := hp.append hkey (knd.hash k) v
    obtain ⟨l⟩ := es
    simpa using e1
  · rw [List.map_append, List.nodup_append]
    refine ⟨hn, by simp, fun a ha b hb e => hf ?_⟩
    have : b = k := by simpa using hb
    rw [← this, ← e]
    exact ha
/-- the keys of a dict of ints and texts are no objects -/
theorem key_plain {k : Key} {v : Value} (h : (mixKind P w).is k v = true) : ∀ a, v ≠ .ref a := fun a e => by
  subst e
  rcases keyIs_shape (show keyIs k (.ref a) = true from h) with ⟨i, t, _, e⟩ | ⟨x, t, _, e⟩ <;> cases e
theorem merge_new {d o : Addr} {kvs more : List (Key × Value)} {Q : Unit → Shared → Prop} (hdo : o ≠ d) (hoS : (o == sysModules) = false) (hd : s.heap.DictOf (mixKind P w) d kvs) (ho : s.heap.DictOf (mixKind P w) o more) (hn : ((kvs ++ more).map (·.1)).Nodup) (hz : kvs.length + more.length ≤ 1000)
    (hQ : ∀ h2, h2.DictOf (mixKind P w) d (kvs ++ more) → Heap.SameBut d s.heap h2 → Q () { s with heap := h2 }) : wpAny (model P w) A (mergeMapping d (.ref o) false) Q E s := by
  obtain ⟨oo, eso, epo, hoo, hco, hdo', hko, hpo, hno⟩ := id ho
  obtain ⟨od, esd, epd, hod, hcd, hdd, hkd, hpd, hnd⟩ := id hd
  have hT : s.TypeIs (.ref o) "dict" := ⟨oo, hoo, hco.1⟩
  have hlen : more.length = eso.size := by
    rw [← hpo.length]
    simp
  unfold mergeMapping
  have turns : wpAny (model P w) A (forIn (List.range eso.size) PUnit.unit fun i (_ : PUnit) => do
      let l ← dictEntries o
      match l[i]? with
      | some e => do
        holding [e.key, e.val] (dictPut d e.hash e.key e.val)
        let ep2 ← dictEpoch o
        if (ep2 != epo) = true then do
          (unsupported "dict.changed-during-merge" : Sem PUnit)
          pure (ForInStep.yield PUnit.unit)
        else pure (ForInStep.yield PUnit.unit)
      | _ => do
        (unsupported "dict.changed-during-merge" : Sem PUnit)
        pure (ForInStep.yield PUnit.unit)) (fun _ s2 => Q () s2) E s := by
    refine wpAny_forIn_list _ (fun l _ s2 => ∃ h2 i, s2 = { s with heap := h2 } ∧ l = (List.range eso.size).drop i ∧ i ≤ eso.size ∧ h2.DictOf (mixKind P w) d (kvs ++ more.take i) ∧ Heap.SameBut d s.heap h2) _ ?_ ?_ _ _ ⟨s.heap, 0, rfl, rfl, Nat.zero_le _, by simpa using hd, Heap.SameBut.refl _ _⟩
    · rintro x l b s2 ⟨h2, i, rfl, hl, hi, hd2, hs2⟩
      have hlt : i < eso.size := by
        rcases Nat.lt_or_ge i eso.size with z | z
        · exact z
        · rw [List.drop_eq_nil_of_le (by rw [List.length_range]; exact z)] at hl
          cases hl
      rw [List.drop_eq_getElem_cons (by rw [List.length_range]; exact hlt), List.getElem_range] at hl
      obtain ⟨rfl, rfl⟩ := List.cons.inj hl
      have ho2 : h2.get? o = some oo := (hs2.2 o hdo).trans hoo
      have hm : x < more.length := by rw [hlen]; exact hlt
      obtain ⟨e, kv, g1, g2, g3, g4⟩ : ∃ e kv, eso[x]? = some e ∧ more[x]? = some kv ∧ (mixKind P w).is kv.1 e.key = true ∧ e.val = kv.2 := by
        have all : ∀ {es : List DictEntry} {l : List (Key × Value)}, Pairs (mixKind P w) es l → ∀ j, j < l.length → ∃ e kv, es[j]? = some e ∧ l[j]? = some kv ∧ (mixKind P w).is kv.1 e.key = true ∧ e.val = kv.2 := by
          intro es l hp
          induction hp with
          | nil => intro j hj; simp at hj
          | @cons e kv es l a1 a2 _ ih =>
            intro j hj
            cases j with
            | zero => exact ⟨e, kv, rfl, rfl, a1, a2⟩
            | succ j => exact ih j (by simpa using hj)
        obtain ⟨e, kv, g1, g2, g3, g4⟩ := all hpo x hm
        exact ⟨e, kv, by rw [← Array.getElem?_toList]; exact g1, g2, g3, g4⟩
      have hhash : e.hash = (mixKind P w).hash kv.1 := by
        obtain ⟨k2, a1, a2⟩ := hko e (Array.mem_of_getElem? g1)
        rw [a2, (mixKind P w).inj e.key k2 kv.1 a1 g3]
      refine wpAny_bind (wpAny_dictEntries ho2 hdo' ?_)
      rw [g1]
      refine wpAny_bind (wpAny_holding ?_)
      rw [hhash, g4]
      have htk : more.take (x + 1) = more.take x ++ [(kv.1, kv.2)] := by
        rw [List.take_add_one, g2]
        rfl
      refine put_new (s := { s with heap := h2 }) g3 hd2 ?_ ?_ fun h3 d3 s3 => ?_
      · have nn : ((kvs ++ (more.take (x + 1) ++ more.drop (x + 1))).map (·.1)).Nodup := by rw [List.take_append_drop]; exact hn
        rw [htk] at nn
        intro hc
        rw [List.append_assoc, List.singleton_append, ← List.append_assoc, List.map_append, List.nodup_append] at nn
        exact nn.2.2 _ hc kv.1 (by rw [List.map_cons]; exact List.mem_cons_self ..) rfl
      · rw [List.length_append, List.length_take, sizeLine_eq]
        omega
      · refine wpAny_bind (wpAny_dictEpoch (s := { s with heap := h3 }) ((s3.2 o hdo).trans ho2) hdo' ?_)
        rw [if_neg (by simp)]
        refine wpAny_pure ⟨h3, x + 1, rfl, rfl, hlt, ?_, hs2.trans s3⟩
        rw [htk, ← List.append_assoc]
        exact d3
    · rintro b s2 ⟨h2, i, rfl, hl, hi, hd2, hs2⟩
      have hz2 : more.length ≤ i := by
        have q := congrArg List.length hl
        rw [List.length_nil, List.length_drop, List.length_range] at q
        omega
      rw [List.take_of_length_le hz2] at hd2
      exact hQ h2 hd2 hs2
  refine wpAny_bind (wpAny_isInstance hT isSubtype_dict_dict ?_)
  rw [if_pos rfl]
  refine wpAny_bind (wpAny_specialOf hT PySem.F.slot_dict_iter.lookup (wpAny_bind (wpAny_pure ?_)))
  simp only [beq_self_eq_true]
  rw [if_neg (by rw [hoS]; exact Bool.false_ne_true)]
  refine wpAny_bind (wpAny_dictEntries hod hdd ?_)
  have nr : ∀ e ∈ eso.toList, ∀ a, e.key ≠ .ref a := fun e he => by
    obtain ⟨k2, a1, _⟩ := hko e (by simpa using he)
    exact key_plain a1
  by_cases hemp : esd.isEmpty = true
  · rw [if_pos hemp]
    refine wpAny_bind (wpAny_dictEntries hoo hdo' (wpAny_bind ?_))
    rw [← Array.forIn_toList]
    refine wpAny_forIn_list _ (fun l _ s2 => s2 = s ∧ ∀ e ∈ l, ∀ a, e.key ≠ .ref a) _ ?_ ?_ _ _ ⟨rfl, nr⟩
    · rintro x l b s2 ⟨rfl, hx⟩
      have hk := hx x (List.mem_cons_self ..)
      split
      · rename_i a he
        exact (hk a he).elim
      · exact wpAny_pure ⟨rfl, fun e he => hx e (List.mem_cons_of_mem _ he)⟩
    · rintro b s2 ⟨rfl, _⟩
      refine wpAny_bind (wpAny_dictEntries hoo hdo' (wpAny_bind (wpAny_dictEpoch hoo hdo' (wpAny_bind ?_))))
      simp only [Bool.false_eq_true, if_false]
      exact wpAny_mono turns (fun _ _ q => wpAny_pure q) fun _ _ q => q
  · rw [if_neg hemp]
    refine wpAny_bind (wpAny_dictEntries hoo hdo' (wpAny_bind (wpAny_dictEpoch hoo hdo' (wpAny_bind ?_))))
    simp only [Bool.false_eq_true, if_false]
    exact wpAny_mono turns (fun _ _ q => wpAny_pure q) fun _ _ q => q
/-- {**m, k: v} -/
theorem display_two {m k v : Sem Value} {Q : Value → Shared → Prop}
    (h : wpAny (model P w) A m (fun mv s1 => ∃ o more, mv = .ref o ∧ o ≠ s.heap.objs.size ∧ (o == sysModules) = false ∧ s1.heap.DictOf (mixKind P w) s.heap.objs.size [] ∧ s1.heap.DictOf (mixKind P w) o more ∧ (more.map (·.1)).Nodup ∧ more.length ≤ 900 ∧
      ∀ h2, h2.DictOf (mixKind P w) s.heap.objs.size more → Heap.SameBut s.heap.objs.size s1.heap h2 →
        wpAny (model P w) A k (fun kv s3 => wpAny (model P w) A v (fun vv s4 => ∃ kk mo, (mixKind P w).is kk kv = true ∧ kk ∉ mo.map (·.1) ∧ s4.heap.DictOf (mixKind P w) h2.objs.size [] ∧ s4.heap.DictOf (mixKind P w) s.heap.objs.size mo ∧ mo.length ≤ 900 ∧ (h2.objs.size == sysModules) = false ∧ h2.objs.size ≠ s.heap.objs.size ∧
          ∀ h3 t3, h3.DictOf (mixKind P w) h2.objs.size [(kk, vv)] → Heap.SameBut h2.objs.size s4.heap h3 → ∀ h5, h5.DictOf (mixKind P w) s.heap.objs.size (mo ++ [(kk, vv)]) → Heap.SameBut s.heap.objs.size h3 h5 → Q (.ref s.heap.objs.size) { s4 with heap := h5, toks := t3 }) E s3) E { s1 with heap := h2.push { cls := .type "dict", data := .dict #[] } }) E
      { s with heap := s.heap.push { cls := .type "dict", data := .dict #[] } }) :
    wpAny (model P w) A (dictDisplay [(none, m), (some k, v)]) Q E s := by
  unfold dictDisplay
  simp only [List.forIn_cons, List.forIn_nil, List.isEmpty_nil, if_true, pure_bind, bind_assoc]
  refine wpAny_bind (wpAny_alloc (wpAny_bind (wpAny_holding ?_)))
  refine wpAny_mono h (fun mv s1 q => ?_) fun _ _ q => q
  obtain ⟨o, more, rfl, n1, n2, d1, d2, d3, d4, q⟩ := q
  refine wpAny_bind (wpAny_onRaise (wpAny_tryCatch (wpAny_onRaise (wpAny_holding (merge_new n1 n2 d1 d2 (by rw [List.nil_append]; exact d3) (by rw [List.length_nil]; omega) fun h2 e2 s2 => ?_)))))
  rw [List.nil_append] at e2
  rw [if_neg (by simp)]
  refine wpAny_bind (wpAny_pure ?_)
  refine wpAny_bind (wpAny_pure ?_)
  rw [if_neg (by simp)]
  refine wpAny_bind (wpAny_bind (wpAny_holding (wpAny_subDict (knd := mixKind P w) (by simp) ?_)))
  rw [List.nil_append]
  show wpAny _ _ (do let kv ← k; let vv ← holding [kv] v; let r ← holding [kv, vv] (evalPairs []); pure ((kv, vv) :: r)) _ _ _
  refine wpAny_bind (wpAny_mono (q h2 e2 s2) (fun kv s3 q3 => wpAny_bind (wpAny_holding (wpAny_mono q3 (fun vv s4 q4 => ?_) fun _ _ q => q))) fun _ _ q => q)
  obtain ⟨kk, mo, k1, k2, k3, k4, k7, k5, k6, q4⟩ := q4
  refine wpAny_bind (wpAny_holding (wpAny_pure (wpAny_pure ?_)))
  refine ⟨[(kk, vv)], ⟨k1, rfl, trivial⟩, k3, fun h3 e3 s3' => ?_⟩
  have e3' : h3.DictOf (mixKind P w) h2.objs.size [(kk, vv)] := e3
  have nd2 : ((mo ++ [(kk, vv)]).map (·.1)).Nodup := by
    rw [List.map_append, List.nodup_append]
    refine ⟨(let ⟨_, _, _, _, _, _, _, _, z⟩ := k4; z), by simp, fun a ha b hb e => k2 ?_⟩
    have hb' : b = kk := by simpa using hb
    rw [← hb', ← e]
    exact ha
  refine wpAny_bind (wpAny_onRaise (wpAny_holding (merge_new (kvs := mo) (more := [(kk, vv)]) k6 k5 (k4.sameBut s3' (Ne.symm k6)) e3' nd2 (by simp; omega) fun h5 e5 s5 => ?_)))
  exact wpAny_pure (wpAny_pure (q4 h3 _ e3' s3' h5 e5 s5))
end

section
variable {X : Cx}
def tMrg (tm tk tv : TE) : TE := fun σ H Q => ∀ p, H p = none → tm σ (upd H p (.dK [])) fun x H1 => ∃ o more, x = .ref o ∧ o ≠ p ∧ H1 p = some (.dK []) ∧ H1 o = some (.dK more) ∧ more.length ≤ 900 ∧
  ∀ q, H1 q = none → tk σ (upd (upd H1 p (.dK more)) q (.dK [])) fun y H2 => tv σ H2 fun z H3 => ∃ k, y = kV k ∧ k ∉ more.map (·.1) ∧ H3 p = some (.dK more) ∧ H3 q = some (.dK []) ∧ Q (.ref p) (upd (upd H3 q (.dK [(k, z)])) p (.dK (more ++ [(k, z)])))
theorem kv_keys : ∀ {kvs : List (Key × V)} {vs : List (Key × Value)}, KV kvs vs → kvs.map (·.1) = vs.map (·.1)
  | _, _, .nil => rfl
  | _, _, .cons r t => by rw [List.map_cons, List.map_cons, r.1, kv_keys t]
theorem kv_snoc : ∀ {kvs : List (Key × V)} {vs : List (Key × Value)} {k : Key} {v : V} {u : Value}, KV kvs vs → RelV v u → KV (kvs ++ [(k, v)]) (vs ++ [(k, u)])
  | _, _, _, _, _, .nil, r => .cons ⟨rfl, r⟩ .nil
  | _, _, _, _, _, .cons a t, r => .cons a (kv_snoc t r)
theorem pe_mrg {m k v : Expr} {tm tk tv : TE} {pos : Pos} (hm : PE X m tm) (hk : PE X k tk) (hv : PE X v tv)
    (he : ∀ env : Env, (evalEachOpt [none, some k] env).zip ((evalEach [m, v] env).map fun v => do let x ← v; standAt pos; pure x) = [(none, do let x ← eval m env; standAt pos; pure x), (some (eval k env), do let x ← eval v env; standAt pos; pure x)] := by intro _; rfl) :
    PE X (.Dict [none, some k] [m, v] pos) (tMrg tm tk tv) := by
  refine ⟨fun pins s σ H Q I h => ?_⟩
  rw [arm_eval_Dict, he]
  refine wpAny_bind (wpAny_standAt (display_two ?_))
  have n0 := I.hok.fresh (Nat.le_refl s.heap.objs.size)
  have I0 := I.laid (a := s.heap.objs.size) (o := .dK []) (h' := s.heap.push { cls := .type "dict", data := .dict #[] }) (t' := s.toks) (fun _ _ q => Heap.get?_push_of_some _ q) (Nat.le_refl _) (dk_empty s.heap I.big)
  refine wpAny_bind (thn (hm.run pins _ σ _ _ I0 (h _ n0)) fun mv s1 ⟨x, H1, I1, r1, o, more, e1, n1, p1, o1, l1, q⟩ => wpAny_bind (wpAny_standAt (wpAny_pure ?_)))
  subst e1
  obtain rfl : mv = Value.ref o := r1
  obtain ⟨zp, np, vp, rp, dp⟩ := dk_of I1.hok p1
  cases rp
  obtain ⟨zo, no, vo, ro, dO⟩ := dk_of I1.hok o1
  have nd : (vo.map (·.1)).Nodup := let ⟨_, _, _, _, _, _, _, _, z⟩ := dO; z
  refine ⟨o, vo, rfl, n1, no, dp, dO, nd, by rw [← Paired.length ro]; exact l1, fun h2 d2 s2 => ?_⟩
  have I2 : Inv X pins σ (upd H1 s.heap.objs.size (.dK more)) { s1 with heap := h2 } := d_write (t' := s1.toks) I1 (by rw [p1]; exact True.intro) s2 (let ⟨z, _, _, hz, _⟩ := d2; ⟨z, hz⟩) (dk_new zo np ro d2)
  have nq := I2.hok.fresh (Nat.le_refl h2.objs.size)
  have neq : h2.objs.size ≠ s.heap.objs.size := fun e => by
    rw [e, upd_same] at nq
    cases nq
  have nq1 : H1 h2.objs.size = none := by rw [upd_ne neq] at nq; exact nq
  have I3 := I2.laid (a := h2.objs.size) (o := .dK []) (h' := h2.push { cls := .type "dict", data := .dict #[] }) (t' := s1.toks) (fun _ _ q => Heap.get?_push_of_some _ q) (Nat.le_refl _) (dk_empty h2 I2.big)
  refine thn (hk.run pins _ σ _ _ I3 (q _ nq1)) fun kv s3 ⟨y, H3, I3, r3, q3⟩ => ?_
  refine wpAny_bind (thn (hv.run pins s3 σ H3 _ I3 q3) fun vv s4 ⟨z, H4, I4, r4, kk, ey, hn, p4, qq4, q4⟩ => wpAny_bind (wpAny_standAt (wpAny_pure ?_)))
  subst ey
  obtain ⟨_, _, vp4, rp4, dp4⟩ := dk_of I4.hok p4
  obtain ⟨_, nq4, vq4, rq4, dq4⟩ := dk_of I4.hok qq4
  cases rq4
  refine ⟨kk, vp4, kV_is r3, by rw [← kv_keys rp4]; exact hn, dq4, dp4, by rw [← Paired.length rp4]; exact l1, nq4, neq, fun h5 t5 d5 s5 h6 d6 s6 => ?_⟩
  have I5 : Inv X pins σ (upd H4 h2.objs.size (.dK [(kk, z)])) { s4 with heap := h5, toks := t5 } := d_write I4 (by rw [qq4]; exact True.intro) s5 (let ⟨z, _, _, hz, _⟩ := d5; ⟨z, hz⟩) (dk_new (by show 1 ≤ sizeLine; decide) nq4 (.cons ⟨rfl, r4⟩ .nil) d5)
  have ep : (upd H4 h2.objs.size (.dK [(kk, z)])) s.heap.objs.size = some (.dK more) := by rw [upd_ne (Ne.symm neq)]; exact p4
  have I6 := d_write (t' := t5) I5 (by rw [ep]; exact True.intro) s6 (let ⟨z, _, _, hz, _⟩ := d6; ⟨z, hz⟩) (dk_new (kvs := more ++ [(kk, z)]) (by rw [List.length_append, sizeLine_eq]; simp; omega) np (kv_snoc rp4 r4) d6)
  exact ⟨.ref s.heap.objs.size, _, I6, rfl, q4⟩
/-- {**d, k: v} of whole numbers -/
def mrgE (fm fk fv : En → Option D) : En → Option D := fun ρ => (fm ρ).bind fun m => (fk ρ).bind fun k => (fv ρ).bind fun v => match m, k, v with
  | .dic kvs, .int i, .int j => if i ∉ kvs.map (·.1) ∧ kvs.length ≤ 900 then some (.dic (kvs ++ [(i, j)])) else none
  | _, _, _ => none
theorem dkv_keys (kvs : List (Int × Int)) (i : Int) : (Sum.inl i : Key) ∉ (dkv kvs).map (·.1) ↔ i ∉ kvs.map (·.1) := by
  unfold dkv
  rw [List.map_map]
  refine not_congr ⟨fun h => ?_, fun h => ?_⟩
  · obtain ⟨p, hp, e⟩ := List.mem_map.mp h
    exact List.mem_map.mpr ⟨p, hp, Sum.inl.inj e⟩
  · obtain ⟨p, hp, e⟩ := List.mem_map.mp h
    exact List.mem_map.mpr ⟨p, hp, congrArg Sum.inl e⟩
variable {m k v : Expr} {fm fk fv : En → Option D} {pos : Pos}
theorem de_mrg (hm : PE X m (tD fm)) (hk : PE X k (tD fk)) (hv : PE X v (tD fv))
    (he : ∀ env : Env, (evalEachOpt [none, some k] env).zip ((evalEach [m, v] env).map fun v => do let x ← v; standAt pos; pure x) = [(none, do let x ← eval m env; standAt pos; pure x), (some (eval k env), do let x ← eval v env; standAt pos; pure x)] := by intro _; rfl) :
    PE X (.Dict [none, some k] [m, v] pos) (tD (mrgE fm fk fv)) := PE.imp (pe_mrg hm hk hv he) fun σ H Q ⟨ρ, S, d, hS, hp, hf, hq⟩ => by
  unfold mrgE at hf
  cases q1 : fm ρ with
  | none => simp [q1] at hf
  | some dm =>
    cases q2 : fk ρ with
    | none => simp [q1, q2] at hf
    | some dk =>
      cases q3 : fv ρ with
      | none => simp [q1, q2, q3] at hf
      | some dv =>
        simp only [q1, q2, q3, Option.bind_some] at hf
        split at hf
        · rename_i kvs i j
          split at hf
          · rename_i hc
            cases hf
            intro p np
            have e0 : Ex H (upd H p (.dK [])) := Ex.new np
            have pS : p ∉ S := hS.new np
            have hS0 : InD (p :: S) (upd H p (.dK [])) := (hS.mono e0).cons upd_same
            have x0 : Ex (hid H S) (hid (upd H p (.dK [])) (p :: S)) := hid_more e0 fun a m => by
              rcases List.mem_cons.mp m with e | m
              · rw [e]; exact .inr np
              · exact .inl m
            have r0 := hp.mono x0
            refine ⟨ρ, p :: S, _, hS0, r0, q1, fun x H1 e1 r1 => ?_⟩
            obtain ⟨o, hx, ho⟩ := r1
            have hp1 : H1 p = some (.dK []) := e1 p _ upd_same
            have no : o ≠ p := fun e => by
              unfold hid at ho
              rw [if_pos (by rw [e]; exact List.mem_cons_self ..)] at ho
              cases ho
            have ho1 := hid_sub o _ ho
            refine ⟨o, dkv kvs, hx, no, hp1, ho1, by unfold dkv; rw [List.length_map]; exact hc.2, fun q nq => ?_⟩
            have nqp : q ≠ p := fun e => by
              rw [e, hp1] at nq
              cases nq
            have nqH : H q = none := by
              cases z : H q with
              | none => rfl
              | some u =>
                rw [(e0.trans e1) q u z] at nq
                cases nq
            have eK : Ex H (upd (upd H1 p (.dK (dkv kvs))) q (.dK [])) := Ex.mut (Ex.mut (e0.trans e1) np) nqH
            have hqp : (upd (upd H1 p (.dK (dkv kvs))) q (.dK [])) p = some (.dK (dkv kvs)) := by rw [upd_ne nqp.symm, upd_same]
            have hSK : InD (q :: p :: S) (upd (upd H1 p (.dK (dkv kvs))) q (.dK [])) := ((hS.mono eK).cons hqp).cons upd_same
            have xK : ∀ H', Ex (upd (upd H1 p (.dK (dkv kvs))) q (.dK [])) H' → Ex (hid H S) (hid H' (q :: p :: S)) := fun H' e' => hid_more (eK.trans e') fun a m => by
              rcases List.mem_cons.mp m with e | m
              · rw [e]; exact .inr nqH
              · rcases List.mem_cons.mp m with e | m
                · rw [e]; exact .inr np
                · exact .inl m
            refine ⟨ρ, q :: p :: S, _, hSK, hp.mono (xK _ (Ex.refl _)), q2, fun y H2 e2 r2 => ⟨ρ, q :: p :: S, _, hSK.mono e2, hp.mono (xK _ e2), q3, fun z H3 e3 r3 => ?_⟩⟩
            refine ⟨Sum.inl i, r2, (dkv_keys kvs i).mpr hc.1, (e2.trans e3) p _ hqp, (e2.trans e3) q _ upd_same, ?_⟩
            refine hq _ _ (Ex.mut (Ex.mut (eK.trans (e2.trans e3)) nqH) np) ⟨p, rfl, hid_of ?_ pS⟩
            rw [upd_same]
            cases (show z = V.int j from r3)
            unfold dkv
            rw [List.map_append]
            rfl
          · cases hf
        · cases hf
end
end DL
end Part_DL7
section Part_DL8
set_option Elab.async false
set_option linter.all false
set_option maxRecDepth 100000
set_option maxHeartbeats 4000000
set_option autoImplicit false
namespace DL
open PySem PySem.Spec PyProof.Rows L2 Evl

/-! ## {k: v for .. in .. for .. in ..}: two clauses, no tests -/
abbrev C2 (kx vx t0 i0 t1 i1 : Expr) (sc : Scope) (pos : Pos) : Expr := .DictComp kx vx [⟨t0, i0, [], 0⟩, ⟨t1, i1, [], 0⟩] sc pos
section
variable {P : Program} {w : World} {A : Around} {R : Result → Shared → Prop} {s : Shared} {kx vx t0 i0 t1 i1 : Expr} {sc : Scope} {pos : Pos} {it : Value} {D : Addr} {env : Env}
theorem c2_turn0 : compTurn (C2 kx vx t0 i0 t1 i1 sc pos) 0 it (.ref D) env = (standAt i0.pos >>= fun _ => pyNext it >>= fun r => match r with
    | none => pure (.done .next)
    | some v => letOwnedTupleGo t0 it v >>= fun _ => assign t0 env v >>= fun _ => (eval i1 env >>= fun x => standAt i1.pos >>= fun _ => foldedSetIterable i1 env x >>= fun x =>
        holding [x] (pyIter x) >>= fun it1 => runOwn (.compStart (C2 kx vx t0 i0 t1 i1 sc pos) 1 it1 (.ref D) env) env >>= fun _ => again (.compLoop (C2 kx vx t0 i0 t1 i1 sc pos) 0 it (.ref D) env))) := by rfl
theorem c2_turn1 : compTurn (C2 kx vx t0 i0 t1 i1 sc pos) 1 it (.ref D) env = (standAt i1.pos >>= fun _ => pyNext it >>= fun r => match r with
    | none => pure (.done .next)
    | some v => letOwnedTupleGo t1 it v >>= fun _ => assign t1 env v >>= fun _ => ((eval kx env >>= fun kv => holding [kv] (eval vx env) >>= fun vv => standAt { kx.pos with endLine := vx.pos.endLine, endCol := vx.pos.endCol } >>= fun _ => holding [kv, vv] (dictSet D kv vv)) >>= fun _ =>
        again (.compLoop (C2 kx vx t0 i0 t1 i1 sc pos) 1 it (.ref D) env))) := by rfl
abbrev F0 : Value → Shared → Prop := fun _ _ => False
theorem mono0 {α : Type} {t : Sem α} {Q Q2 : α → Shared → Prop} {M : Model} {E : Value → Shared → Prop} (h : wpAny M A t Q F0 s) (k : ∀ a s2, Q a s2 → Q2 a s2) : wpAny M A t Q2 E s := wpAny_mono h k fun _ _ z => z.elim
/-- the outer loop -/
theorem c2_loop0 (hs : ∀ x, foldedSetIterable i1 env x = pure x) (I : Nat → Shared → Prop)
    (turn : ∀ n s, I n s → wpAny (model P w) A (pyNext it) (fun r s1 => match r with
      | none => R (.ok .next) s1
      | some v => wpAny (model P w) A (letOwnedTupleGo t0 it v) (fun _ s2 => wpAny (model P w) A (assign t0 env v) (fun _ s3 => wpAny (model P w) A (eval i1 env) (fun x s4 => wpAny (model P w) A (pyIter x) (fun it1 s5 =>
          codeAny (model P w) A (.compStart (C2 kx vx t0 i0 t1 i1 sc pos) 1 it1 (.ref D) env) (fun r s6 => match r with
            | .ok _ => ∃ m, m < n ∧ I m s6
            | .error _ => False) s5) F0 s4) F0 s3) F0 s2) F0 s1) F0 s)
    (n : Nat) (h : I n s) : codeAny (model P w) A (.compLoop (C2 kx vx t0 i0 t1 i1 sc pos) 0 it (.ref D) env) R s := by
  refine codeAny_loop rfl I (fun n s hI => ?_) n h
  show wpAny _ A ((compTurn (C2 kx vx t0 i0 t1 i1 sc pos) 0 it (.ref D) env).onRaise (fun x => do noteFrame x env; theTreesLotGoes x)) _ _ s
  refine wpAny_noted ?_
  rw [c2_turn0]
  refine wpAny_bind (wpAny_standAt (wpAny_bind (mono0 (turn n s hI) fun r s1 h1 => ?_)))
  cases r with
  | none => exact wpAny_pure h1
  | some v =>
    refine wpAny_bind (mono0 h1 fun _ s2 h2 => wpAny_bind (mono0 h2 fun _ s3 h3 => wpAny_bind (mono0 h3 fun x s4 h4 => ?_)))
    refine wpAny_bind (wpAny_standAt (wpAny_bind (wpAny_of_eq (hs x) (wpAny_bind (wpAny_holding (mono0 h4 fun it1 s5 h5 => ?_))))))
    refine wpAny_bind (wpAny_runOwn ?_)
    rw [Around.mark_none]
    refine codeAny_mono h5 fun r s6 hr => ?_
    cases r with
    | ok f => exact wpAny_pure ⟨rfl, hr⟩
    | error e => exact hr.elim
/-- the inner one -/
theorem c2_loop1 (I : Nat → Shared → Prop)
    (turn : ∀ n s, I n s → wpAny (model P w) A (pyNext it) (fun r s1 => match r with
      | none => R (.ok .next) s1
      | some v => wpAny (model P w) A (letOwnedTupleGo t1 it v) (fun _ s2 => wpAny (model P w) A (assign t1 env v) (fun _ s3 => wpAny (model P w) A (eval kx env) (fun kv s4 => wpAny (model P w) A (eval vx env) (fun vv s5 =>
          wpAny (model P w) A (dictSet D kv vv) (fun _ s6 => ∃ m, m < n ∧ I m s6) F0 s5) F0 s4) F0 s3) F0 s2) F0 s1) F0 s)
    (n : Nat) (h : I n s) : codeAny (model P w) A (.compLoop (C2 kx vx t0 i0 t1 i1 sc pos) 1 it (.ref D) env) R s := by
  refine codeAny_loop rfl I (fun n s hI => ?_) n h
  show wpAny _ A ((compTurn (C2 kx vx t0 i0 t1 i1 sc pos) 1 it (.ref D) env).onRaise (fun x => do noteFrame x env; theTreesLotGoes x)) _ _ s
  refine wpAny_noted ?_
  rw [c2_turn1]
  refine wpAny_bind (wpAny_standAt (wpAny_bind (mono0 (turn n s hI) fun r s1 h1 => ?_)))
  cases r with
  | none => exact wpAny_pure h1
  | some v =>
    refine wpAny_bind (mono0 h1 fun _ s2 h2 => wpAny_bind (mono0 h2 fun _ s3 h3 => wpAny_bind (wpAny_bind (mono0 h3 fun kv s4 h4 => ?_))))
    refine wpAny_bind (wpAny_holding (mono0 h4 fun vv s5 h5 => wpAny_bind (wpAny_standAt (wpAny_holding (mono0 h5 fun _ s6 h6 => ?_)))))
    exact wpAny_pure ⟨rfl, h6⟩
theorem c2_start1 (h0 : codeAny (model P w) A (.compLoop (C2 kx vx t0 i0 t1 i1 sc pos) 1 it (.ref D) env) R s)
    (h : wpAny (model P w) A (pyIter it) (fun it2 s2 => codeAny (model P w) A (.compLoop (C2 kx vx t0 i0 t1 i1 sc pos) 1 it2 (.ref D) env) R s2) F0 s) :
    codeAny (model P w) A (.compStart (C2 kx vx t0 i0 t1 i1 sc pos) 1 it (.ref D) env) R s := by
  refine codeAny_of_tree ?_
  show wpAny _ _ ((compStart (C2 kx vx t0 i0 t1 i1 sc pos) 1 it (.ref D) env).onRaise (fun x => do noteFrame x env; standAt theWindowsPlace)) _ _ s
  refine wpAny_notedAt ?_
  unfold compStart
  show wpAny _ _ (ask >>= _) _ _ s
  refine wpAny_bind (wpAny_askSetting (wpAny_ite ?_))
  split
  · exact wpAny_pure (And.intro rfl h0)
  · refine wpAny_bind (wpAny_rule ?_)
    show wpAny _ _ (standAt i1.pos >>= _) _ _ s
    exact wpAny_bind (wpAny_standAt (wpAny_bind (mono0 h fun it2 s2 h2 => wpAny_pure (And.intro rfl h2))))
end
section
variable {X : Cx}
/-- the reading: D the new dict; W, Nx of the outer loop, W1, Nx1 of the inner -/
def tDc2 (wi : TI) (g : TG) (wi1 : TI) (g1 : TG) (tk tv : TE) (vs vs1 : List Nat) : TE := fun σ H Q => wi σ H fun J H1 => ∀ D, H1 D = none → ∃ W : Nat → Nat → Hp → Prop, (∃ m, W 0 m (upd H1 D (.dK []))) ∧ ∀ i m H, W i m H →
  (J.stop i H ∧ Q (.ref D) H) ∨ (J.go i H ∧ ∃ Nx : Hp → Prop, (∀ H', Nx H' → ∃ m', m' < m ∧ W (i + 1) m' H') ∧ ∀ x H', J.yld i H x H' → g x (wipe σ vs) H' fun σ2 H2 => wipe σ2 vs = wipe σ vs ∧
    wi1 σ2 H2 fun J1 H4 => ∃ W1 : Nat → Nat → Hp → Prop, (∃ m, W1 0 m H4) ∧ ∀ j k H, W1 j k H →
      (J1.stop j H ∧ Nx H) ∨ (J1.go j H ∧ ∃ Nx1 : Hp → Prop, (∀ H', Nx1 H' → ∃ k', k' < k ∧ W1 (j + 1) k' H') ∧ ∀ x H', J1.yld j H x H' → g1 x (wipe σ2 vs1) H' fun σ3 H5 => wipe σ3 vs1 = wipe σ2 vs1 ∧
        tk σ3 H5 fun y H6 => tv σ3 H6 fun z H7 => ∃ kvs k, y = kV k ∧ H7 D = some (.dK kvs) ∧ kvs.length < sizeLine ∧ Nx1 (upd H7 D (.dK (putK kvs k z)))))
/-- what of the block is asked for, whatever the block's own objects are -/
abbrev InBlk (X : Cx) (sc : Scope) (p : Cx → Prop) : Prop := ∀ (s : Shared) (H : Hp) (C : Addr) (cl : List (Str × Addr)) (fp : List Addr), p (X.blk s H sc (compEnvC sc cl C X.env) fp)
theorem dc2_core {pins : List (Addr × Obj)} {s : Shared} {σ : L2.St} {H : Hp} {Q : VK} {use : Option (Value → Sem Unit)} {Qf : Value → Shared → Prop} {kx vx t0 i0 t1 i1 : Expr} {sc : Scope} {own : List (Str × Nat)} {vs1 : List Nat} {pos pos' : Pos} {wi wi1 : TI} {g g1 : TG} {tk tv : TE} (hc : X.calm = true) (hN : X.N.Nodup) (I : Inv X pins σ H s) (hi : PI X t0 i0 wi) (ok : BlkOk X.N X.env.scope sc own) (hv : ∀ i ∈ vs1, i ∈ own.map (·.2))
    (hg : InBlk X sc fun Y => PG Y t0 g) (hi1 : InBlk X sc fun Y => PI Y t1 i1 wi1) (hg1 : InBlk X sc fun Y => PG Y t1 g1) (hk : InBlk X sc fun Y => PE Y kx tk) (he : InBlk X sc fun Y => PE Y vx tv)
    (hs : ∀ x, foldedSetIterable i0 X.env x = pure x) (hs1 : ∀ env x, foldedSetIterable i1 env x = pure x) (h : tDc2 wi g wi1 g1 tk tv (own.map (·.2)) vs1 σ H Q)
    (hRR : ∀ D C s' m H', Inv X pins σ H' s' → Q (.ref D) H' → s'.heap.Ns C m → FpOk X pins H' C → compPost (model X.prog X.w) X.A X.xe use Qf (.ref D) C (.ok .next) s') :
    wpAny (model X.prog X.w) X.A (comprehension (C2 kx vx t0 i0 t1 i1 sc pos) sc X.env pos' newDict false (eval i0 X.env) use) Qf X.xe s := by
  have hfr : ∀ y ∈ sc.names, y.2 = .free → ∃ c, X.env.cells.lookup y.1 = some c := fun y hy e => (ok.free y hy e).elim (fun k => I.ok.has _ (.inl k)) fun k => I.ok.has _ (.inr k)
  refine wpAny_comprehension_free (use := use) rfl hs (closure_ok hfr) ok.kind (fun y hy e => by rw [ok.uniq y hy, e]) (thn (hi.run pins s σ H _ I h) fun xv s1 hx => thn hx fun itv s2 h2 => ?_)
  obtain ⟨it, fp, tn, J, H2, e, I2, T, st2, f2, q⟩ := h2
  subst e
  refine wpAny_newObj_type (newEnv_comp ?_)
  generalize hD : s2.heap.objs.size = D
  have nD : H2 D = none := I2.hok.fresh (Nat.le_of_eq hD)
  obtain ⟨W, ⟨m0, w0⟩, turn⟩ := q D nD
  generalize hs3 : ({ s2 with heap := s2.heap.push { cls := .type "dict", data := .dict #[] } } : Shared) = s3
  have z3 : s3.heap = s2.heap.push { cls := .type "dict", data := .dict #[] } := by rw [← hs3]
  have up3 : ∀ b o, s2.heap.get? b = some o → s3.heap.get? b = some o := fun b o q => by rw [z3]; exact Heap.get?_push_of_some _ q
  have I3 : Inv X pins σ (upd H2 D (.dK [])) s3 := by
    rw [← hs3]
    refine I2.laid (t' := s2.toks) (fun b o q => Heap.get?_push_of_some _ q) (Nat.le_of_eq hD) ?_
    rw [← hD]
    exact dk_empty s2.heap I2.big
  have f3 : ∀ b ∈ fp, FpOk X pins (upd H2 D (.dK [])) b ∧ b < s3.heap.objs.size := fun b hb => by
    obtain ⟨o, e, _⟩ := T.obj _ _ st2 b hb
    have lt := Heap.lt_size e
    refine ⟨⟨?_, (f2 b hb).2⟩, Heap.lt_size (up3 b o e)⟩
    rw [upd_ne (by rw [← hD]; exact Nat.ne_of_lt lt)]
    exact (f2 b hb).1
  have st3 : tn 0 s3.heap := T.keep _ _ _ st2 fun b _ o q => up3 b o q
  have I4 := block_start I3 ok hN f3
  have n3 : ∀ b ∈ fp, (upd H2 D (.dK [])) b = none := fun b hb => (f3 b hb).1.1
  generalize hH3 : upd H2 D (.dK []) = H3 at I3 I4 w0 n3 f3
  generalize hcl : cellsFrom (s3.heap.objs.size + 1) sc.names (cloFrom X.env.cells sc.names []) = cl at I4 ⊢
  have pg := hg s3 H3 s3.heap.objs.size cl fp
  have pi1 := hi1 s3 H3 s3.heap.objs.size cl fp
  have pg1 := hg1 s3 H3 s3.heap.objs.size cl fp
  have pk := hk s3 H3 s3.heap.objs.size cl fp
  have pv := he s3 H3 s3.heap.objs.size cl fp
  show codeAny _ _ (.compStart (C2 kx vx t0 i0 t1 i1 sc pos) 0 (.ref it) (.ref D) (compEnvC sc cl s3.heap.objs.size X.env)) (compPost (model X.prog X.w) X.A X.xe use Qf (.ref D) s3.heap.objs.size) { s3 with heap := pushCells (s3.heap.push { cls := .type "dict", data := .dict #[] }) sc.names }
  generalize hce : compEnvC sc cl s3.heap.objs.size X.env = ce at I4 pg pi1 pg1 pk pv ⊢
  have cL : ce.locals = s3.heap.objs.size := by subst hce; rfl
  generalize hs4 : ({ s3 with heap := pushCells (s3.heap.push { cls := .type "dict", data := .dict #[] }) sc.names } : Shared) = s4 at I4 ⊢
  have st4 : tn 0 s4.heap := T.keep _ _ _ st3 fun b _ o q => by rw [← hs4]; exact pushCells_keeps _ _ _ _ (Heap.get?_push_of_some _ q)
  have own0 : ∀ {τ : L2.St} {H' : Hp} {s' : Shared}, Inv (X.blk s3 H3 sc ce fp) [] τ H' s' → (∀ b ∈ fp, H' b = none) → ∀ b ∈ fp, FpOk (X.blk s3 H3 sc ce fp) [] H' b := fun I' hn b hb =>
    ⟨hn b hb, (I'.ok.exf b hb).1, I'.ok.exfs b hb, .inl hb, fun x c q => (I'.ok.exf b hb).2 x c q, fun p hp => by cases hp⟩
  have loop : codeAny (model X.prog X.w) X.A (.compLoop (C2 kx vx t0 i0 t1 i1 sc pos) 0 (.ref it) (.ref D) ce) (compPost (model X.prog X.w) X.A X.xe use Qf (.ref D) s3.heap.objs.size) s4 := by
    refine c2_loop0 (hs1 ce) (fun n s' => ∃ i H', Inv (X.blk s3 H3 sc ce fp) [] (wipe σ (own.map (·.2))) H' s' ∧ tn i s'.heap ∧ (∀ b ∈ fp, H' b = none) ∧ W i n H') ?_ m0 ⟨0, H3, I4, st4, n3, w0⟩
    rintro n s5 ⟨i, H5, I5, st5, n5, w5⟩
    rcases turn i n H5 w5 with ⟨stop, qq⟩ | ⟨go, Nx, hNx, step⟩
    · refine thnF (T.done (X.blk s3 H3 sc ce fp) rfl rfl rfl hc i [] s5 _ H5 F0 I5 (own0 I5 n5) st5 stop) fun r s6 ⟨hr, I6⟩ => ?_
      subst hr
      have I7 : Inv X pins σ H5 s6 := I3.call' (ch := fp) I6.os I6.base I6.hok I6.bare fun b hb => let z := (f3 b hb).1; ⟨z.2.2.2.1, z.2.1, z.2.2.2.2.1, z.2.2.2.2.2⟩
      have nC : H5 s3.heap.objs.size = none := by
        rw [← cL]
        exact I6.free
      obtain ⟨m, hn, _⟩ := I6.loc
      have hn' : s6.heap.Ns s3.heap.objs.size m := by
        rw [← cL]
        exact hn
      exact hRR D s3.heap.objs.size s6 m H5 I7 qq hn' (I3.fpOk (Nat.le_refl _) nC)
    · refine thnF (T.item (X.blk s3 H3 sc ce fp) rfl rfl rfl hc i [] s5 _ H5 F0 I5 (own0 I5 n5) st5 go) fun r s6 ⟨u, hr, h6⟩ => ?_
      subst hr
      refine thnF h6 fun _ s7 ⟨x, H7, I7, r7, y7, st7, n7⟩ => ?_
      have I7' := I7.pinned (own0 I7 n7) (T.obj _ _ st7)
      refine thnF (pg.run _ s7 _ H7 x u _ I7' r7 (step x H7 y7)) fun _ s8 ⟨σ8, H8, I8, w8, q8⟩ => ?_
      have back : ∀ {τ : L2.St} {s' : Shared} {H' : Hp}, Inv (X.blk s3 H3 sc ce fp) ([] ++ pinsAt fp s7.heap) τ H' s' → (wipe σ (own.map (·.2))).length = τ.length → (∀ (j : Nat) v, (wipe σ (own.map (·.2)))[j]? = some (some v) → τ[j]? = some (some v)) → Nx H' →
          ∃ m, m < n ∧ ∃ i H', Inv (X.blk s3 H3 sc ce fp) [] (wipe σ (own.map (·.2))) H' s' ∧ tn i s'.heap ∧ (∀ b ∈ fp, H' b = none) ∧ W i m H' := fun {τ s' H'} I' hl hk nx => by
        obtain ⟨m', hm, w'⟩ := hNx H' nx
        have at7 : ∀ b ∈ fp, ∀ o, s7.heap.get? b = some o → s'.heap.get? b = some o ∧ H' b = none := fun b hb o q =>
          let z := I'.pin (b, o) (List.mem_append_right _ (List.mem_append_right _ (mem_pinsAt hb q)))
          ⟨z.1, z.2.1⟩
        refine ⟨m', hm, i + 1, H', (I'.unpinned (pins := [])).weak hl hk, T.keep _ _ _ st7 fun b hb o q => (at7 b hb o q).1, fun b hb => ?_, w'⟩
        obtain ⟨o, q, _⟩ := T.obj _ _ st7 b hb
        exact (at7 b hb o q).2
      have l8 : (wipe σ (own.map (·.2))).length = σ8.length := by rw [← w8, wipe_length]
      have k8 : ∀ (j : Nat) v, (wipe σ (own.map (·.2)))[j]? = some (some v) → (wipe σ8 vs1)[j]? = some (some v) := fun j v q => by
        rw [← w8] at q
        obtain ⟨a1, a2⟩ := wipe_some q
        rw [wipe_out fun z => a2 (hv j z)]
        exact a1
      refine thnF (pi1.run _ s8 σ8 H8 _ I8 q8) fun xv s9 hx => thnF hx fun itv s10 h10 => ?_
      obtain ⟨it1, fp1, tn1, J1, H10, e1, I10, T1, st10, f10, W1, ⟨m1, w1⟩, turn1⟩ := h10
      subst e1
      have own1 : ∀ {H' : Hp}, (∀ b ∈ fp1, H' b = none) → ∀ b ∈ fp1, FpOk (X.blk s3 H3 sc ce fp) ([] ++ pinsAt fp s7.heap) H' b := fun hn b hb => ⟨hn b hb, (f10 b hb).2⟩
      have inner : codeAny (model X.prog X.w) X.A (.compLoop (C2 kx vx t0 i0 t1 i1 sc pos) 1 (.ref it1) (.ref D) ce)
          (fun r s' => match r with
            | .ok _ => ∃ m, m < n ∧ ∃ i H', Inv (X.blk s3 H3 sc ce fp) [] (wipe σ (own.map (·.2))) H' s' ∧ tn i s'.heap ∧ (∀ b ∈ fp, H' b = none) ∧ W i m H'
            | .error _ => False) s10 := by
        refine c2_loop1 (fun k s' => ∃ j H', Inv (X.blk s3 H3 sc ce fp) ([] ++ pinsAt fp s7.heap) (wipe σ8 vs1) H' s' ∧ tn1 j s'.heap ∧ (∀ b ∈ fp1, H' b = none) ∧ W1 j k H') ?_ m1 ⟨0, H10, I10.weak (wipe_length _ _) (fun j v q => (wipe_some q).1), st10, fun b hb => (f10 b hb).1, w1⟩
        rintro k s12 ⟨j, H12, I12, st12, n12, w12⟩
        rcases turn1 j k H12 w12 with ⟨stop1, nx1⟩ | ⟨go1, Nx1, hNx1, step1⟩
        · refine thnF (T1.done (X.blk s3 H3 sc ce fp) rfl rfl rfl hc j _ s12 (wipe σ8 vs1) H12 F0 I12 (own1 n12) st12 stop1) fun r s13 ⟨hr, I13⟩ => ?_
          subst hr
          exact back I13 (l8.trans (wipe_length σ8 vs1).symm) k8 nx1
        · refine thnF (T1.item (X.blk s3 H3 sc ce fp) rfl rfl rfl hc j _ s12 (wipe σ8 vs1) H12 F0 I12 (own1 n12) st12 go1) fun r s13 ⟨u1, hr, h13⟩ => ?_
          subst hr
          refine thnF h13 fun _ s14 ⟨x1, H14, I14, r14, y14, st14, n14⟩ => ?_
          have I14' := I14.pinned (own1 n14) (T1.obj _ _ st14)
          refine thnF (pg1.run _ s14 (wipe σ8 vs1) H14 x1 u1 _ I14' r14 (step1 x1 H14 y14)) fun _ s15 ⟨σ15, H15, I15, w15, q15⟩ => ?_
          refine thnF (pk.run _ s15 σ15 H15 _ I15 q15) fun kv s16 ⟨yk, H16, I16, r16, q16⟩ => ?_
          refine thnF (pv.run _ s16 σ15 H16 _ I16 q16) fun vv s17 ⟨yv, H17, I17, r17, kvs, kk, ek, hD17, z17, nx⟩ => ?_
          subst ek
          refine d_dictSet (X := X.blk s3 H3 sc ce fp) I17 hD17 z17 r16 r17 fun s18 I18 => ?_
          obtain ⟨m', hm, w'⟩ := hNx1 _ nx
          have at14 : ∀ b ∈ fp1, ∀ o, s14.heap.get? b = some o → s18.heap.get? b = some o ∧ (upd H17 D (.dK (putK kvs kk yv))) b = none := fun b hb o q =>
            let z := I18.pin (b, o) (List.mem_append_right _ (List.mem_append_right _ (mem_pinsAt hb q)))
            ⟨z.1, z.2.1⟩
          refine ⟨m', hm, j + 1, _, I18.unpinned.weak (by rw [← w15, wipe_length]) (fun j v q => by rw [← w15] at q; exact (wipe_some q).1), T1.keep _ _ _ st14 fun b hb o q => (at14 b hb o q).1, fun b hb => ?_, w'⟩
          obtain ⟨o, q, _⟩ := T1.obj _ _ st14 b hb
          exact (at14 b hb o q).2
      exact c2_start1 inner (T1.self X.A 0 _ _ _ st10 inner)
  exact codeAny_compStart_dict loop (T.self X.A 0 _ _ _ st4 loop)
theorem pe_dc2 {kx vx t0 i0 t1 i1 : Expr} {sc : Scope} {own : List (Str × Nat)} {vs1 : List Nat} {pos : Pos} {wi wi1 : TI} {g g1 : TG} {tk tv : TE} (hc : X.calm = true) (hN : X.N.Nodup) (hi : PI X t0 i0 wi) (ok : BlkOk X.N X.env.scope sc own) (hv : ∀ i ∈ vs1, i ∈ own.map (·.2))
    (hg : InBlk X sc fun Y => PG Y t0 g) (hi1 : InBlk X sc fun Y => PI Y t1 i1 wi1) (hg1 : InBlk X sc fun Y => PG Y t1 g1) (hk : InBlk X sc fun Y => PE Y kx tk) (he : InBlk X sc fun Y => PE Y vx tv)
    (hs : ∀ x, foldedSetIterable i0 X.env x = pure x := by intro _; rfl) (hs1 : ∀ env x, foldedSetIterable i1 env x = pure x := by intro _ _; rfl) : PE X (C2 kx vx t0 i0 t1 i1 sc pos) (tDc2 wi g wi1 g1 tk tv (own.map (·.2)) vs1) := by
  refine ⟨fun pins s σ H Q I h => ?_⟩
  rw [arm_eval_DictComp]
  refine dc2_core (use := none) (Qf := EP X pins σ Q) hc hN I hi ok hv hg hi1 hg1 hk he hs hs1 h fun D C s' m H' I' q hn f => ⟨m, hn, fun h'' sb => ?_⟩
  obtain ⟨f0, f1, f2, f3, f4, f5⟩ := f
  exact ⟨.ref D, H', I'.turned (t' := s'.toks) (fun b o hb e => (sb.2 b hb).trans e) f0 f1 f3 f4 f5, rfl, q⟩
theorem swd_true {kx vx : Expr} {gs : List Comprehension} {scope : Scope} {pos py : Pos} {y : Str} {l : Nat} {env : Env} (hk : env.scope.kind = .function) (hy : env.scope.names.lookup y = some .local) (hl : (py.line == pos.line) = true)
    (ha : (scope.names.any fun (n, k) => n == y && (k == .local || k == .cell)) = false) : swapsWith (.DictComp kx vx gs scope pos) (some (.Name y py)) l env = pure true := by
  have ky : env.kindOf y = some .local := hy
  have hb : env.blockKind = .function := by unfold Env.blockKind; rw [hk]; rfl
  unfold swapsWith
  simp only [hb, ky, ha, Expr.pos, hl]
  rfl
/-- name = {..} on one line, the name a local -/
theorem ps_setDc2 {i : Nat} {y : Str} {py : Pos} {kx vx t0 i0 t1 i1 : Expr} {sc : Scope} {own : List (Str × Nat)} {vs1 : List Nat} {pos spos : Pos} {wi wi1 : TI} {g g1 : TG} {tk tv : TE} (hc : X.calm = true) (hN : X.N.Nodup) (hy : X.N[i]? = some y) (hyl : X.env.scope.names.lookup y = some .local)
    (hsw : swapsWith (C2 kx vx t0 i0 t1 i1 sc pos) (some (.Name y py)) spos.line X.env = pure true) (hi : PI X t0 i0 wi) (ok : BlkOk X.N X.env.scope sc own) (hv : ∀ i ∈ vs1, i ∈ own.map (·.2))
    (hg : InBlk X sc fun Y => PG Y t0 g) (hi1 : InBlk X sc fun Y => PI Y t1 i1 wi1) (hg1 : InBlk X sc fun Y => PG Y t1 g1) (hk : InBlk X sc fun Y => PE Y kx tk) (he : InBlk X sc fun Y => PE Y vx tv)
    (hs : ∀ x, foldedSetIterable i0 X.env x = pure x := by intro _; rfl) (hs1 : ∀ env x, foldedSetIterable i1 env x = pure x := by intro _ _; rfl) :
    PS X (.Assign [.Name y py] (C2 kx vx t0 i0 t1 i1 sc pos) spos) (tAsg (tDc2 wi g wi1 g1 tk tv (own.map (·.2)) vs1) (gName i)) := by
  refine ⟨fun pins s σ H D I h => ?_⟩
  rw [exec_Assign_Name_used _ _ _ _ hsw]
  refine wpAny_bind (wpAny_standAt (wpAny_bind ?_))
  show wpAny _ X.A (do let _ ← comprehension (C2 kx vx t0 i0 t1 i1 sc pos) sc X.env (firstIterPos [⟨t0, i0, [], 0⟩, ⟨t1, i1, [], 0⟩] pos) newDict false (eval i0 X.env) (some (assign (.Name y py) X.env))) _ _ s
  have h : tDc2 wi g wi1 g1 tk tv (own.map (·.2)) vs1 σ H (fun x H1 => gName i x σ H1 D.nx) := h
  refine wpAny_bind (thn (dc2_core (Qf := fun _ s' => SP X pins D .next s') hc hN I hi ok hv hg hi1 hg1 hk he hs hs1 h fun L C s' m H' I' q hn f => ?_) fun _ s' hq => wpAny_pure (wpAny_pure hq))
  show wpAny _ _ (assign (.Name y py) X.env (.ref L)) _ _ _
  refine wpAny_assign_Name (store_ok2 (v := V.ref L) I' hN hy (.inl hyl) rfl (fun s2 I2 ⟨a, sb, ha⟩ => ?_) (.inr hyl))
  obtain ⟨f0, f1, f2, f3, f4, f5⟩ := f
  have haC : C ≠ a := by
    rcases ha with z | z
    · rw [z]; exact f1
    · exact fun e => f4 y a z e.symm
  refine ⟨m, hn.sameBut sb haC, fun h3 sb3 => ?_⟩
  exact ⟨_, H', I2.turned (t' := s2.toks) (fun b o hb e => (sb3.2 b hb).trans e) f0 f1 f3 f4 f5, q⟩

/-! ### by data -/
def dputI (kvs : List (Int × Int)) (i j : Int) : List (Int × Int) := if (kvs.any fun p => decide (p.1 = i)) = true then kvs.map (fun p => if p.1 = i then (p.1, j) else p) else kvs ++ [(i, j)]
theorem dput_kv (kvs : List (Int × Int)) (i j : Int) : dkv (dputI kvs i j) = putK (dkv kvs) (Sum.inl i : Key) (V.int j) := by
  have ha : (dkv kvs).any (fun kv => decide (kv.1 = (Sum.inl i : Key))) = kvs.any fun p => decide (p.1 = i) := by
    unfold dkv
    rw [List.any_map]
    congr 1
    funext p
    show decide ((Sum.inl p.1 : Key) = Sum.inl i) = decide (p.1 = i)
    by_cases h : p.1 = i
    · rw [h]
      simp
    · rw [decide_eq_false h, decide_eq_false fun z => h (Sum.inl.inj z)]
  unfold dputI putK
  rw [ha]
  split
  · unfold dkv
    rw [List.map_map, List.map_map]
    refine List.map_congr_left fun p _ => ?_
    show (Sum.inl (if p.1 = i then (p.1, j) else p).1, V.int (if p.1 = i then (p.1, j) else p).2) = if (Sum.inl p.1 : Key) = Sum.inl i then (Sum.inl p.1, V.int j) else (Sum.inl p.1, V.int p.2)
    by_cases h : p.1 = i
    · rw [if_pos h, if_pos (congrArg Sum.inl h)]
    · rw [if_neg h, if_neg fun z => h (Sum.inl.inj z)]
  · unfold dkv
    rw [List.map_append]
    rfl
def dcompD (t : Tg) (fk fv : En → Option D) (ρ : En) : List D → List (Int × Int) → Option (List (Int × Int))
  | [], acc => some acc
  | d :: r, acc => (bdT t d ρ).bind fun ρ1 => (fk ρ1).bind fun k => (fv ρ1).bind fun v => match k, v with
    | .int i, .int j => if acc.length ≤ cap then dcompD t fk fv ρ r (dputI acc i j) else none
    | _, _ => none
def dcomp2D (t : Tg) (fi1 : En → Option (List D)) (t1 : Tg) (fk fv : En → Option D) (vs1 : List Nat) (ρ : En) : List D → List (Int × Int) → Option (List (Int × Int))
  | [], acc => some acc
  | d :: r, acc => (bdT t d ρ).bind fun ρ1 => (fi1 ρ1).bind fun es => (dcompD t1 fk fv (wipeE ρ1 vs1) es acc).bind fun acc' => dcomp2D t fi1 t1 fk fv vs1 ρ r acc'
def dc2E (fi : En → Option (List D)) (t : Tg) (fi1 : En → Option (List D)) (t1 : Tg) (fk fv : En → Option D) (vs vs1 : List Nat) : En → Option D := fun ρ => (fi ρ).bind fun ds => (dcomp2D t fi1 t1 fk fv vs1 (wipeE ρ vs) ds []).map D.dic
theorem dc2_read {wi wi1 : TI} {g g1 : TG} {tk tv : TE} {fi fi1 : En → Option (List D)} {t t1 : Tg} {fk fv : En → Option D} {vs vs1 : List Nat} (hi : ∀ σ H R, tDI fi σ H R → wi σ H R) (hg : GD g t) (hvs : ∀ i ∈ t.slots, i ∈ vs) (hi1 : ∀ σ H R, tDI fi1 σ H R → wi1 σ H R) (hg1 : GD g1 t1) (hvs1 : ∀ i ∈ t1.slots, i ∈ vs1)
    (hk : ∀ σ H Q, tD fk σ H Q → tk σ H Q) (he : ∀ σ H Q, tD fv σ H Q → tv σ H Q) (σ : L2.St) (H : Hp) (Q : VK) (h : tD (dc2E fi t fi1 t1 fk fv vs vs1) σ H Q) : tDc2 wi g wi1 g1 tk tv vs vs1 σ H Q := by
  obtain ⟨ρ, S, dd, hS, hp, hf, hq⟩ := h
  unfold dc2E at hf
  cases q1 : fi ρ with
  | none => simp [q1] at hf
  | some ds =>
    simp only [q1, Option.bind_some] at hf
    cases q2 : dcomp2D t fi1 t1 fk fv vs1 (wipeE ρ vs) ds [] with
    | none => simp [q2] at hf
    | some out =>
      simp only [q2, Option.map_some, Option.some.injEq] at hf
      subst hf
      refine hi _ _ _ ⟨ρ, S, ds, hS, hp, q1, fun J H1 e1 wd Dl hD => ?_⟩
      have hS1 := hS.mono e1
      have hDS : Dl ∉ S := hS1.new hD
      refine ⟨fun i m Hc => m = ds.length - i ∧ i ≤ ds.length ∧ ∃ acc, dcomp2D t fi1 t1 fk fv vs1 (wipeE ρ vs) (ds.drop i) acc = some out ∧ Ex H1 Hc ∧ Hc Dl = some (.dK (dkv acc)), ⟨ds.length, by simp, Nat.zero_le _, [], q2, Ex.new hD, upd_same⟩, ?_⟩
      rintro i m Hc ⟨rfl, hile, acc, hc, xc, ac⟩
      have eB : Ex (hid H1 S) Hc := fun a o h => xc a o (hid_sub a o h)
      by_cases hlt : i < ds.length
      · refine .inr ⟨((wd i Hc eB).1 hlt).1, fun H' => ∃ acc, dcomp2D t fi1 t1 fk fv vs1 (wipeE ρ vs) (ds.drop (i + 1)) acc = some out ∧ Ex H1 H' ∧ H' Dl = some (.dK (dkv acc)), fun H' ⟨a', c1, c2⟩ => ⟨ds.length - (i + 1), by omega, rfl, hlt, a', c1, c2⟩, fun x H' hy => ?_⟩
        obtain ⟨e2, hx⟩ := ((wd i Hc eB).1 hlt).2 x H' hy
        have hSc : InD (Dl :: S) Hc := (hS1.mono xc).cons ac
        have eS : Ex (hid H1 S) (hid Hc (Dl :: S)) := hid_more xc fun a ha => by
          rcases List.mem_cons.mp ha with e | ha
          · rw [e]; exact .inr hD
          · exact .inl ha
        have hdx := hx (Dl :: S) hSc eS ds[i] (List.getElem?_eq_getElem hlt)
        rw [drop_get hlt] at hc
        have hp' : RepS (hid H' (Dl :: S)) (wipe σ vs) (wipeE ρ vs) := ((hp.mono (hid_mono e1)).mono (eS.trans (hid_mono e2))).wipe vs
        unfold dcomp2D at hc
        cases r1 : bdT t ds[i] (wipeE ρ vs) with
        | none => simp [r1] at hc
        | some ρ1 =>
          simp only [r1, Option.bind_some] at hc
          cases r3 : fi1 ρ1 with
          | none => simp [r3] at hc
          | some es =>
            simp only [r3, Option.bind_some] at hc
            cases r4 : dcompD t1 fk fv (wipeE ρ1 vs1) es acc with
            | none => simp [r4] at hc
            | some acc2 =>
              simp only [r4, Option.bind_some] at hc
              refine hg (Dl :: S) _ _ ρ1 _ x H' _ hp' hdx r1 fun σ1 hp1 hw _ => ⟨(hw vs hvs).trans wipe_idem, hi1 _ _ _ ⟨ρ1, Dl :: S, es, hSc.mono e2, hp1, r3, fun J1 H4 e4 wd1 => ?_⟩⟩
              have x14 := (xc.trans e2).trans e4
              have a4 : H4 Dl = some (.dK (dkv acc)) := (e2.trans e4) Dl _ ac
              have nD4 : hid H4 [Dl] Dl = none := by
                unfold hid
                rw [if_pos (List.mem_cons_self ..)]
              have e14 : Ex H1 (hid H4 [Dl]) := fun a o ha => hid_of (x14 a o ha) fun hm => by
                have ea : a = Dl := by simpa using hm
                rw [ea, hD] at ha
                cases ha
              have eB4 : ∀ Hj, Ex (hid H4 [Dl]) Hj → Ex (hid H4 (Dl :: S)) (hid Hj (Dl :: S)) := fun Hj ej a o ha => by
                have na : a ∉ Dl :: S := fun hm => by
                  unfold hid at ha
                  rw [if_pos hm] at ha
                  cases ha
                refine hid_of (ej a o (hid_of (hid_sub a o ha) fun hm => na ?_)) na
                have ea : a = Dl := by simpa using hm
                rw [ea]
                exact List.mem_cons_self ..
              refine ⟨fun j k Hc => k = es.length - j ∧ j ≤ es.length ∧ ∃ acc', dcompD t1 fk fv (wipeE ρ1 vs1) (es.drop j) acc' = some acc2 ∧ Ex (hid H4 [Dl]) Hc ∧ Hc Dl = some (.dK (dkv acc')), ⟨es.length, by simp, Nat.zero_le _, acc, r4, hid_sub, a4⟩, ?_⟩
              rintro j k Hj ⟨rfl, hjle, acc', hc', xj, aj⟩
              have eJ := eB4 Hj xj
              have eBj : Ex (hid H4 (Dl :: S)) Hj := fun a o h => hid_sub a o (eJ a o h)
              by_cases hjt : j < es.length
              · refine .inr ⟨((wd1 j Hj eBj).1 hjt).1, fun H' => ∃ acc', dcompD t1 fk fv (wipeE ρ1 vs1) (es.drop (j + 1)) acc' = some acc2 ∧ Ex (hid H4 [Dl]) H' ∧ H' Dl = some (.dK (dkv acc')), fun H' ⟨a', c1, c2⟩ => ⟨es.length - (j + 1), by omega, rfl, hjt, a', c1, c2⟩, fun y H5 hy5 => ?_⟩
                obtain ⟨e5, hx5⟩ := ((wd1 j Hj eBj).1 hjt).2 y H5 hy5
                have hSj : InD (Dl :: S) Hj := ((hS1.mono e14).mono xj).cons aj
                have hdy := hx5 (Dl :: S) hSj eJ es[j] (List.getElem?_eq_getElem hjt)
                rw [drop_get hjt] at hc'
                have hp5 : RepS (hid H5 (Dl :: S)) (wipe σ1 vs1) (wipeE ρ1 vs1) := ((hp1.mono (hid_mono e4)).mono (eJ.trans (hid_mono e5))).wipe vs1
                unfold dcompD at hc'
                cases u1 : bdT t1 es[j] (wipeE ρ1 vs1) with
                | none => simp [u1] at hc'
                | some ρ2 =>
                  simp only [u1, Option.bind_some] at hc'
                  cases u2 : fk ρ2 with
                  | none => simp [u2] at hc'
                  | some dk =>
                    cases u3 : fv ρ2 with
                    | none => simp [u2, u3] at hc'
                    | some dv =>
                      simp only [u2, u3, Option.bind_some] at hc'
                      split at hc'
                      · rename_i ki vi
                        split at hc'
                        · rename_i hcap
                          refine hg1 (Dl :: S) _ _ ρ2 _ y H5 _ hp5 hdy u1 fun σ2 hp2 hw2 _ => ⟨(hw2 vs1 hvs1).trans wipe_idem, hk _ _ _ ⟨ρ2, Dl :: S, .int ki, hSj.mono e5, hp2, u2, fun yk H6 e6 r6 => he _ _ _ ⟨ρ2, Dl :: S, .int vi, (hSj.mono e5).mono e6, hp2.mono (hid_mono e6), u3, fun yv H7 e7 r7 => ?_⟩⟩⟩
                          cases (show yv = V.int vi from r7)
                          refine ⟨dkv acc', Sum.inl ki, r6, ((e5.trans e6).trans e7) Dl _ aj, by unfold dkv; rw [List.length_map]; exact cap_lt hcap, dputI acc' ki vi, hc', Ex.mut (((xj.trans e5).trans e6).trans e7) nD4, ?_⟩
                          rw [upd_same, dput_kv]
                        · cases hc'
                      · cases hc'
              · have ej : j = es.length := by omega
                subst ej
                rw [List.drop_length] at hc'
                simp only [dcompD, Option.some.injEq] at hc'
                subst hc'
                exact .inl ⟨(wd1 _ Hj eBj).2 (Nat.le_refl _), acc', hc, e14.trans xj, aj⟩
      · have ei : i = ds.length := by omega
        subst ei
        rw [List.drop_length] at hc
        simp only [dcomp2D, Option.some.injEq] at hc
        subst hc
        exact .inl ⟨(wd _ Hc eB).2 (Nat.le_refl _), hq _ Hc (e1.trans xc) ⟨Dl, rfl, hid_of ac hDS⟩⟩
end
end DL
end Part_DL8
section Part_DL9
set_option Elab.async false
set_option linter.all false
set_option maxRecDepth 100000
set_option maxHeartbeats 4000000
set_option autoImplicit false
namespace DL
open PySem PySem.Spec PyProof.Rows L2 Evl

section
variable {X : Cx} {a b c e : Expr} {fa fb fc : En → Option D} {pos p q tpos : Pos}
/-! ## {} -/
theorem de_dnew : PE X (.Dict [] [] pos) (tD (cE (.dic []))) := PE.imp pe_dnewK fun σ H Q ⟨ρ, S, d, hS, hp, hf, hq⟩ p np => by
  cases hf
  exact hq _ _ (Ex.new np) ⟨p, rfl, hid_new hS np⟩
/-! ## list(range(n)) -/
def lrgE (f : En → Option D) : En → Option D := fun ρ => (f ρ).bind fun d => match d with
  | .int n => if 0 ≤ n ∧ n ≤ 100000 then some (.lst (rngD 0 n)) else none
  | _ => none
theorem rgV_reps {H : Hp} (n : Int) : Reps H (rngD 0 n) (rgV 0 n) := by
  have e1 : rngD 0 n = ((List.range (n - 0).toNat).map fun i => (0 : Int) + (i : Nat)).map D.int := by
    unfold rngD
    rw [List.map_map]
    rfl
  have e2 : rgV 0 n = ((List.range (n - 0).toNat).map fun i => (0 : Int) + (i : Nat)).map V.int := by
    unfold rgV
    rw [List.map_map]
    rfl
  rw [e1, e2]
  exact ints_reps _
theorem de_listRg {p2 q2 : Pos} (hc : X.calm = true) (hg : Gl X "list") (hm : X.mg "list" = none) (hg2 : Gl X "range") (hm2 : X.mg "range" = none) (ha : PE X a (tD fa)) (na : starEach [.Call (.Name "range" p2) [a] [] q2] X.env = (false, eval (.Call (.Name "range" p2) [a] [] q2) X.env) :: starEach [] X.env := by rfl)
    (na2 : starEach [a] X.env = (false, eval a X.env) :: starEach [] X.env := by rfl) : PE X (.Call (.Name "list" p) [.Call (.Name "range" p2) [a] [] q2] [] pos) (tD (lrgE fa)) :=
  PE.imp (pe_listRg hc hg hm (prg_1 hg2 hm2 ha na2) na) fun σ H Q ⟨ρ, S, d, hS, hp, hf, hq⟩ => by
  unfold lrgE at hf
  cases q1 : fa ρ with
  | none => simp [q1] at hf
  | some dx =>
    simp only [q1, Option.bind_some] at hf
    cases dx with
    | int n =>
      simp only at hf
      split at hf
      · rename_i hn
        cases hf
        refine ⟨ρ, S, .int n, hS, hp, q1, fun v H1 e1 r1 => ⟨n, r1, RgOk.of_le (by omega) (by omega) (by omega) (by omega), fun z hz => ?_⟩⟩
        exact hq _ _ (e1.trans (Ex.new hz)) (new_lst (hS.mono e1) hz (rgV_reps n))
      · cases hf
    | _ => simp at hf

/-! ## for k, v in d.items() -/
mutual
theorem rep_off {H H' : Hp} (hk : ∀ a o, H a = some o → (∀ kvs, o ≠ .dK kvs) → H' a = some o) : ∀ (n : Nat) (d : D) (v : V), dOk n d = true → Rep H d v → Rep H' d v
  | _, .non, _, _, h => h
  | _, .bl _, _, _, h => h
  | _, .int _, _, _, h => h
  | 0, .lst _, _, o, _ => by simp [dOk] at o
  | 0, .tup _, _, o, _ => by simp [dOk] at o
  | n + 1, .lst ds, _, o, ⟨a, xs, hv, ha, hr⟩ => ⟨a, xs, hv, hk a _ ha (fun _ z => nomatch z), reps_off hk n ds xs (by simpa [dOk] using o) hr⟩
  | n + 1, .tup ds, _, o, ⟨a, xs, hv, ha, hr⟩ => ⟨a, xs, hv, hk a _ ha (fun _ z => nomatch z), reps_off hk n ds xs (by simpa [dOk] using o) hr⟩
  | _, .dic _, _, o, _ => by simp [dOk] at o
theorem reps_off {H H' : Hp} (hk : ∀ a o, H a = some o → (∀ kvs, o ≠ .dK kvs) → H' a = some o) : ∀ (n : Nat) (ds : List D) (vs : List V), dOks n ds = true → Reps H ds vs → Reps H' ds vs
  | _, [], _, _, h => h
  | n, d :: ds, _, o, ⟨x, r, hv, h1, h2⟩ => by
    have a1 : dOk n d = true ∧ dOks n ds = true := by simpa [dOks] using o
    exact ⟨x, r, hv, rep_off hk n d x a1.1 h1, reps_off hk n ds r a1.2 h2⟩
end
def okO : Option D → Bool
  | none => true
  | some d => dOk 60 d
def okE (ρ : En) : Bool := ρ.all okO
def itmD (kvs : List (Int × Int)) : List D := kvs.map fun p => D.tup [.int p.1, .int p.2]
/-- the slot k (the dict) is forgotten from here on -/
def itF (k : Nat) (t : Tg) (F : ES → Option Out) : ES → Option Out := fun e => match vE k e.view with
  | some (.dic kvs) => if okE (e.ρ.set k none) = true ∧ e.own ≠ some k then loopF t F (itmD kvs) ⟨e.own, e.ρ.set k none⟩ else none
  | _ => none
theorem wd_itm {B Bd : Hp} {d : Addr} {o : Obj} {kvs : List (Int × Int)} (hB : ∀ H, Ex B H → H d = some (.frz o (.dK (dkv kvs)))) : WD2 (Iti d o (dkv kvs)) (itmD kvs) B Bd := fun i H e => by
  have hl : (itmD kvs).length = (dkv kvs).length := by
    unfold itmD dkv
    rw [List.length_map, List.length_map]
  refine ⟨fun hi => ⟨⟨hB H e, by rw [← hl]; exact hi⟩, fun x H' hy => ?_⟩, fun hi => ⟨hB H e, by rw [← hl]; exact hi⟩⟩
  obtain ⟨T, k, v, hk, hx, nT, rfl⟩ := hy
  refine ⟨Ex.new nT, fun S hS eB z hz => ?_⟩
  unfold itmD at hz
  unfold dkv at hk
  rw [List.getElem?_map] at hz hk
  cases q : kvs[i]? with
  | none => simp [q] at hz
  | some pr =>
    simp only [q, Option.map_some, Option.some.injEq] at hz hk
    subst hz
    cases hk
    exact ⟨T, [V.int pr.1, V.int pr.2], hx, hid_new hS nT, .int pr.1, [.int pr.2], rfl, rfl, .int pr.2, [], rfl, rfl, rfl⟩
variable {Ew : Hp → Prop} {F : ES → Option Out}
theorem ds_items {k : Nat} {t : Tg} {g : TG} {elts : List Expr} {kk : Nat} {apos cpos : Pos} {o : Expr} {body : List Stmt} (hEw : ∀ H, ¬ Ew H) (hp : PassesOwn (model X.prog X.w) X.A X.env X.xe) (hc : X.calm = true) (ho : PE X o (tVar k)) (hg : PG X (.Tuple elts kk tpos) g) (hG : GD g t) (hb : PSs X body (tDS Ew F))
    (hbase : attributeBase o "items" X.env (eval o X.env) = eval o X.env := by rfl) (hline : (apos.endLine == cpos.line) = true := by rfl) (hs : ∀ x, foldedSetIterable (.Call (.Attribute o "items" apos) [] [] cpos) X.env x = pure x := by intro _; rfl) :
    PS X (.For (.Tuple elts kk tpos) (.Call (.Attribute o "items" apos) [] [] cpos) body [] pos) (tDS Ew (itF k t F)) :=
  PS.imp (ps_lock (ps_for hp hc (pi_items ho hbase hline) hg hb hs)) fun Dn σ H ⟨H0, S, e, o, ⟨ow, h1⟩, h2, h3⟩ => by
  unfold itF at h2
  split at h2
  · rename_i kvs hkv
    split at h2
    · rename_i hok
      obtain ⟨hok, hown⟩ := hok
      obtain ⟨v, hv, d, hvd, hd⟩ := h1.rep.at' k _ (vE_some hkv)
      subst hvd
      have hdH := hid_sub d _ hd
      have ndo : d ∉ ow ++ S := fun m => by
        unfold hid at hd
        rw [if_pos m] at hd
        cases hd
      have ndS : d ∉ S := fun m => ndo (List.mem_append_right _ m)
      have ndw : d ∉ ow := fun m => ndo (List.mem_append_left _ m)
      refine ⟨d, .dK (dkv kvs), hdH, True.intro, fun od => ⟨.ref d, hv, d, od, dkv kvs, rfl, upd_same, ?_⟩⟩
      -- what stands while the dict is walked
      have other : ∀ a u, H a = some u → (∀ ks, u ≠ .dK ks) → (upd H d (.frz od (.dK (dkv kvs)))) a = some u := fun a u ha hu => by
        rw [upd_ne fun z => by
          rw [z, hdH] at ha
          cases ha
          exact hu _ rfl]
        exact ha
      have hfd : (upd H d (.frz od (.dK (dkv kvs)))) d = some (.frz od (.dK (dkv kvs))) := upd_same
      have xs : Ex (hid (upd H d (.frz od (.dK (dkv kvs)))) ow) (upd H d (.frz od (.dK (dkv kvs)))) := hid_sub
      have hds : (hid (upd H d (.frz od (.dK (dkv kvs)))) ow) d = some (.frz od (.dK (dkv kvs))) := hid_of hfd ndw
      have vis : ∀ n z w, dOk n z = true → Rep (hid H (ow ++ S)) z w → Rep (hid (upd H d (.frz od (.dK (dkv kvs)))) (ow ++ (d :: S))) z w := fun n z w oz rz => rep_off (fun a u ha hu => by
        have ha' := hid_sub a _ ha
        have hna : a ∉ ow ++ S := fun m => by
          unfold hid at ha
          rw [if_pos m] at ha
          cases ha
        refine hid_of (other a u ha' hu) fun m => ?_
        rcases List.mem_append.mp m with m | m
        · exact hna (List.mem_append_left _ m)
        · rcases List.mem_cons.mp m with z | m
          · rw [z, hdH] at ha'
            cases ha'
            exact hu _ rfl
          · exact hna (List.mem_append_right _ m)) n z w oz rz
      have body0 : SR0 (hid (upd H d (.frz od (.dK (dkv kvs)))) ow) (d :: S) ow ⟨e.own, e.ρ.set k none⟩ σ (upd H d (.frz od (.dK (dkv kvs)))) := by
        refine ⟨xs, fun a m => ?_, fun a m => ?_, fun a m => ?_, ⟨?_, fun i z hz => ?_⟩, ?_⟩
        · rcases List.mem_cons.mp m with z | m
          · rw [z, hds]
            exact fun z => nomatch z
          · have hna : a ≠ d := fun z => ndS (by rw [← z]; exact m)
            have hnw : a ∉ ow := fun w => h1.ind a m (h1.fr a w)
            unfold hid
            rw [if_neg hnw, upd_ne hna]
            exact (h1.ind.mono h1.ex) a m
        · unfold hid
          rw [if_pos m]
        · rw [upd_ne fun z => ndw (by rw [← z]; exact m)]
          exact h1.dom a m
        · have l := h1.rep.len
          unfold ES.view at l ⊢
          cases hw : e.own <;> simp only [hw, List.length_set] at l ⊢ <;> exact l
        · have hik : i ≠ k := fun z => by
            subst z
            unfold ES.view at hz
            cases hw : e.own with
            | none =>
              simp only [hw] at hz
              rw [List.getElem?_set] at hz
              split at hz
              · split at hz <;> cases hz
              · rename_i n; exact n rfl
            | some k2 =>
              simp only [hw] at hz
              rw [List.getElem?_set] at hz
              split at hz
              · split at hz <;> cases hz
              · rw [List.getElem?_set] at hz
                split at hz
                · split at hz <;> cases hz
                · rename_i n; exact n rfl
          have hz' : e.view[i]? = some (some z) := by
            unfold ES.view at hz ⊢
            cases hw : e.own with
            | none =>
              simp only [hw] at hz ⊢
              rw [List.getElem?_set_ne hik.symm] at hz
              exact hz
            | some k2 =>
              simp only [hw] at hz ⊢
              rw [List.set_comm _ _ (fun z => hown (by rw [hw, z])), List.getElem?_set_ne hik.symm] at hz
              exact hz
          obtain ⟨w, g1, g2⟩ := h1.rep.at' i z hz'
          refine ⟨w, g1, vis 60 z w ?_ g2⟩
          have hm : (some z) ∈ e.ρ.set k none := by
            have : (e.ρ.set k none)[i]? = some (some z) := by
              unfold ES.view at hz
              cases hw : e.own with
              | none => simp only [hw] at hz; exact hz
              | some k2 =>
                simp only [hw] at hz
                rw [List.getElem?_set] at hz
                split at hz
                · split at hz <;> cases hz
                · exact hz
            exact List.mem_of_getElem? this
          exact List.all_eq_true.mp hok _ hm
        · rcases h1.own with o1 | ⟨k2, p, zs, ds, a1, a2, a3, a4, a5, a6⟩
          · exact .inl o1
          · have hk2 : k2 ≠ k := fun z => hown (by rw [a1, z])
            have pd : p ≠ d := fun z => by
              rw [z, hdH] at a3
              cases a3
            refine .inr ⟨k2, p, zs, ds, a1, a2, by rw [upd_ne pd]; exact a3, a4, ?_, ?_⟩
            · show (e.ρ.set k none)[k2]? = _
              rw [List.getElem?_set_ne hk2.symm]
              exact a5
            · subst a2
              have hds2 : dOk 60 (.lst ds) = true := by
                have hm : (some (D.lst ds)) ∈ e.ρ.set k none := List.mem_of_getElem? (i := k2) (by rw [List.getElem?_set_ne hk2.symm]; exact a5)
                exact List.all_eq_true.mp hok _ hm
              refine reps_off (fun a u ha hu => ?_) 59 ds zs (by simpa [dOk] using hds2) a6
              have ha' := hid_sub a _ ha
              have hna : a ∉ p :: S := fun m => by
                unfold hid at ha
                rw [if_pos m] at ha
                cases ha
              refine hid_of (other a u ha' hu) fun m => ?_
              rcases List.mem_cons.mp m with z | m
              · exact hna (by rw [z]; exact List.mem_cons_self ..)
              · rcases List.mem_cons.mp m with z | m
                · rw [z, hdH] at ha'
                  cases ha'
                  exact hu _ rfl
                · exact hna (List.mem_cons_of_mem _ m)
      -- back: the dict is a dict again
      have back : ∀ H', Ex (hid (upd H d (.frz od (.dK (dkv kvs)))) ow) H' → Ex H0 (upd H' d (.dK (dkv kvs))) := fun H' x a u ha => by
        have haH := h1.ex a u ha
        by_cases z : a = d
        · rw [z, upd_same]
          rw [z, hdH] at haH
          exact haH
        · rw [upd_ne z]
          refine x a u (hid_of (by rw [upd_ne z]; exact haH) fun m => ?_)
          rw [h1.fr a m] at ha
          cases ha
      have seen : ∀ H' ow', Ex (hid H' (ow' ++ (d :: S))) (hid (upd H' d (.dK (dkv kvs))) (ow' ++ S)) := fun H' ow' a u ha => by
        have ha' := hid_sub a _ ha
        have hna : a ∉ ow' ++ (d :: S) := fun m => by
          unfold hid at ha
          rw [if_pos m] at ha
          cases ha
        have had : a ≠ d := fun z => hna (by rw [z]; exact List.mem_append_right _ (List.mem_cons_self ..))
        refine hid_of (by rw [upd_ne had]; exact ha') fun m => ?_
        rcases List.mem_append.mp m with m | m
        · exact hna (List.mem_append_left _ m)
        · exact hna (List.mem_append_right _ (List.mem_cons_of_mem _ m))
      have unl : ∀ e' σ' H', SR (hid (upd H d (.frz od (.dK (dkv kvs)))) ow) (d :: S) e' σ' H' → H' d = some (.frz od (.dK (dkv kvs))) ∧ SR H0 S e' σ' (upd H' d (.dK (dkv kvs))) := fun e' σ' H' ⟨ow', hs⟩ => by
        have hdd := hs.ex d _ hds
        refine ⟨hdd, ow', back H' hs.ex, h1.ind, fun a m => ?_, fun a m => ?_, hs.rep.mono (seen H' ow'), ?_⟩
        · cases z : H0 a with
          | none => rfl
          | some u =>
            have hz := hs.fr a m
            by_cases y : a = d
            · rw [y, hds] at hz
              cases hz
            · have := hid_of (S := ow) (show (upd H d (.frz od (.dK (dkv kvs)))) a = some u by rw [upd_ne y]; exact h1.ex a u z) (fun w => by
                rw [h1.fr a w] at z
                cases z)
              rw [this] at hz
              cases hz
        · by_cases y : a = d
          · rw [y, upd_same]
            exact fun z => nomatch z
          · rw [upd_ne y]
            exact hs.dom a m
        · rcases hs.own with o1 | ⟨k2, p, zs, ds, a1, a2, a3, a4, a5, a6⟩
          · exact .inl o1
          · have pd : p ≠ d := fun z => by
              rw [z, hdd] at a3
              cases a3
            refine .inr ⟨k2, p, zs, ds, a1, a2, by rw [upd_ne pd]; exact a3, a4, a5, ?_⟩
            exact a6.mono (seen H' [p])
      refine for_core (Ew := Ew) (o := o) hG (fun _ _ _ z => z) body0 (wd_itm fun H' x => x d _ hds) h2 ?_
      · cases o with
        | nx e' => exact fun σ' H' s' => let z := unl e' σ' H' s'; ⟨z.1, h3 _ _ z.2⟩
        | rt r => exact fun v H' x rr => ⟨x d _ hds, h3 v _ (back H' x) (rr.mono (seen H' []))⟩
        | ex => exact fun H' x => (hEw _ (h3 _ (back H' x))).elim
    · cases h2
  · cases h2
end
end DL
end Part_DL9
section Part_DL10
set_option Elab.async false
set_option linter.all false
set_option maxRecDepth 100000
set_option maxHeartbeats 2000000
set_option autoImplicit false
namespace DL
open PySem PySem.Spec PyProof.Rows L2 Evl

/-! ## comprehensions as rules; the defs' frame -/
section
variable {X : Cx}
/-- the filters of a comprehension, by data -/
def DTs (X : Cx) (ifs : List Expr) (c : En → Option Bool) : Prop := ∃ tt, PTs X ifs tt ∧ ∀ σ H Q, tDT c σ H Q → tt σ H Q
/-- .. whatever the block's own objects are -/
structure BlkTs (X : Cx) (sc : Scope) (ifs : List Expr) (c : En → Option Bool) : Prop where
  mk ::
  ex : ∃ tt, (InBlk X sc fun Y => PTs Y ifs tt) ∧ ∀ σ H Q, tDT c σ H Q → tt σ H Q
theorem bt_nil {sc : Scope} : BlkTs X sc [] tyE := ⟨⟨tYes, fun _ _ _ _ _ => pts_nil, fun _ _ _ h => dt_yes h⟩⟩
theorem bt_one {sc : Scope} {e : Expr} {c : En → Option Bool} (h : InBlk X sc fun Y => PT Y e (tDT c)) : BlkTs X sc [e] c := ⟨⟨tDT c, fun a b d e f => pts_one (h a b d e f), fun _ _ _ h => h⟩⟩
theorem de_lc {elt tg iter : Expr} {ifs : List Expr} {scope : Scope} (own : List (Str × Nat)) {pos : Pos} {g : TG} {fi : En → Option (List D)} {t : Tg} {c : En → Option Bool} {f : En → Option D} (hc : X.calm = true) (hN : X.N.Nodup) (hi : PI X tg iter (tDI fi)) (ok : blkC X.N X.env.scope scope own = true)
    (hg : InBlk X scope fun Y => PG Y tg g) (hG : GD g t) (ht : BlkTs X scope ifs c) (he : InBlk X scope fun Y => PE Y elt (tD f)) (hvs : ∀ i ∈ t.slots, i ∈ own.map (·.2)) (hs : ∀ x, foldedSetIterable iter X.env x = pure x := by intro _; rfl) :
    PE X (.ListComp elt [⟨tg, iter, ifs, 0⟩] scope pos) (tD (lcE fi t c f (own.map (·.2)))) := by
  obtain ⟨tt, h1, h2⟩ := ht.ex
  exact PE.imp (pe_lc hc hN hi (blkOk_by ok) hg h1 he hs) fun σ H Q h => lc_read (fun _ _ _ z => z) hG hvs h2 (fun _ _ _ z => z) σ H Q h
/-- name = [..], the name a local, on one line -/
theorem ds_setLc {Ew : Hp → Prop} {i : Nat} {y : Str} {py : Pos} {elt tg iter : Expr} {ifs : List Expr} {scope : Scope} (own : List (Str × Nat)) {pos spos : Pos} {g : TG} {fi : En → Option (List D)} {t : Tg} {c : En → Option Bool} {f : En → Option D} (hc : X.calm = true) (hN : X.N.Nodup) (hy : X.N[i]? = some y) (hyl : X.env.scope.names.lookup y = some .local)
    (hsw : swapsWith (.ListComp elt [⟨tg, iter, ifs, 0⟩] scope pos) (some (.Name y py)) spos.line X.env = pure true) (hi : PI X tg iter (tDI fi)) (ok : blkC X.N X.env.scope scope own = true)
    (hg : InBlk X scope fun Y => PG Y tg g) (hG : GD g t) (ht : BlkTs X scope ifs c) (he : InBlk X scope fun Y => PE Y elt (tD f)) (hvs : ∀ i ∈ t.slots, i ∈ own.map (·.2)) (hs : ∀ x, foldedSetIterable iter X.env x = pure x := by intro _; rfl) :
    PS X (.Assign [.Name y py] (.ListComp elt [⟨tg, iter, ifs, 0⟩] scope pos) spos) (tDS Ew (setF i (lcE fi t c f (own.map (·.2))))) := by
  obtain ⟨tt, h1, h2⟩ := ht.ex
  exact ds_asg (ps_setLc hc hN hy hyl hsw hi (blkOk_by ok) hg h1 he hs) fun σ H Q h => lc_read (fun _ _ _ z => z) hG hvs h2 (fun _ _ _ z => z) σ H Q h
theorem de_lc2 {elt tg iter tg1 iter1 : Expr} {ifs ifs1 : List Expr} {scope : Scope} (own : List (Str × Nat)) (vs1 : List Nat) {pos : Pos} {g g1 : TG} {fi fi1 : En → Option (List D)} {t t1 : Tg} {c c1 : En → Option Bool} {f : En → Option D} (hc : X.calm = true) (hN : X.N.Nodup) (hi : PI X tg iter (tDI fi)) (ok : blkC X.N X.env.scope scope own = true) (hv : ∀ i ∈ vs1, i ∈ own.map (·.2))
    (hg : InBlk X scope fun Y => PG Y tg g) (hG : GD g t) (ht : BlkTs X scope ifs c) (hi1 : InBlk X scope fun Y => PI Y tg1 iter1 (tDI fi1)) (hg1 : InBlk X scope fun Y => PG Y tg1 g1) (hG1 : GD g1 t1) (ht1 : BlkTs X scope ifs1 c1) (he : InBlk X scope fun Y => PE Y elt (tD f))
    (hvs : ∀ i ∈ t.slots, i ∈ own.map (·.2)) (hvs1 : ∀ i ∈ t1.slots, i ∈ vs1) (hs : ∀ x, foldedSetIterable iter X.env x = pure x := by intro _; rfl) (hs1 : ∀ env x, foldedSetIterable iter1 env x = pure x := by intro _ _; rfl) :
    PE X (.ListComp elt [⟨tg, iter, ifs, 0⟩, ⟨tg1, iter1, ifs1, 0⟩] scope pos) (tD (lc2E fi t c fi1 t1 c1 f (own.map (·.2)) vs1)) := by
  obtain ⟨tt, h1, h2⟩ := ht.ex
  obtain ⟨tt1, h3, h4⟩ := ht1.ex
  exact PE.imp (pe_lc2 hc hN hi (blkOk_by ok) hv hg h1 hi1 hg1 h3 he hs hs1) fun σ H Q h => lc2_read (fun _ _ _ z => z) hG hvs h2 (fun _ _ _ z => z) hG1 hvs1 h4 (fun _ _ _ z => z) σ H Q h
theorem de_dc2 {kx vx t0 i0 te i1 : Expr} {sc : Scope} (own : List (Str × Nat)) (vs1 : List Nat) {pos : Pos} {g g1 : TG} {fi fi1 : En → Option (List D)} {t t1 : Tg} {fk fv : En → Option D} (hc : X.calm = true) (hN : X.N.Nodup) (hi : PI X t0 i0 (tDI fi)) (ok : blkC X.N X.env.scope sc own = true) (hv : ∀ i ∈ vs1, i ∈ own.map (·.2))
    (hg : InBlk X sc fun Y => PG Y t0 g) (hG : GD g t) (hi1 : InBlk X sc fun Y => PI Y te i1 (tDI fi1)) (hg1 : InBlk X sc fun Y => PG Y te g1) (hG1 : GD g1 t1) (hk : InBlk X sc fun Y => PE Y kx (tD fk)) (he : InBlk X sc fun Y => PE Y vx (tD fv))
    (hvs : ∀ i ∈ t.slots, i ∈ own.map (·.2)) (hvs1 : ∀ i ∈ t1.slots, i ∈ vs1) (hs : ∀ x, foldedSetIterable i0 X.env x = pure x := by intro _; rfl) (hs1 : ∀ env x, foldedSetIterable i1 env x = pure x := by intro _ _; rfl) : PE X (C2 kx vx t0 i0 te i1 sc pos) (tD (dc2E fi t fi1 t1 fk fv (own.map (·.2)) vs1)) :=
  PE.imp (pe_dc2 hc hN hi (blkOk_by ok) hv hg hi1 hg1 hk he hs hs1) fun σ H Q h => dc2_read (fun _ _ _ z => z) hG hvs (fun _ _ _ z => z) hG1 hvs1 (fun _ _ _ z => z) (fun _ _ _ z => z) σ H Q h
theorem ds_setDc2 {Ew : Hp → Prop} {i : Nat} {y : Str} {py : Pos} {kx vx t0 i0 te i1 : Expr} {sc : Scope} (own : List (Str × Nat)) (vs1 : List Nat) {pos spos : Pos} {g g1 : TG} {fi fi1 : En → Option (List D)} {t t1 : Tg} {fk fv : En → Option D} (hc : X.calm = true) (hN : X.N.Nodup) (hy : X.N[i]? = some y) (hyl : X.env.scope.names.lookup y = some .local)
    (hsw : swapsWith (C2 kx vx t0 i0 te i1 sc pos) (some (.Name y py)) spos.line X.env = pure true) (hi : PI X t0 i0 (tDI fi)) (ok : blkC X.N X.env.scope sc own = true) (hv : ∀ i ∈ vs1, i ∈ own.map (·.2))
    (hg : InBlk X sc fun Y => PG Y t0 g) (hG : GD g t) (hi1 : InBlk X sc fun Y => PI Y te i1 (tDI fi1)) (hg1 : InBlk X sc fun Y => PG Y te g1) (hG1 : GD g1 t1) (hk : InBlk X sc fun Y => PE Y kx (tD fk)) (he : InBlk X sc fun Y => PE Y vx (tD fv))
    (hvs : ∀ i ∈ t.slots, i ∈ own.map (·.2)) (hvs1 : ∀ i ∈ t1.slots, i ∈ vs1) (hs : ∀ x, foldedSetIterable i0 X.env x = pure x := by intro _; rfl) (hs1 : ∀ env x, foldedSetIterable i1 env x = pure x := by intro _ _; rfl) :
    PS X (.Assign [.Name y py] (C2 kx vx t0 i0 te i1 sc pos) spos) (tDS Ew (setF i (dc2E fi t fi1 t1 fk fv (own.map (·.2)) vs1))) :=
  ds_asg (ps_setDc2 hc hN hy hyl hsw hi (blkOk_by ok) hv hg hi1 hg1 hk he hs hs1) fun σ H Q h => dc2_read (fun _ _ _ z => z) hG hvs (fun _ _ _ z => z) hG1 hvs1 (fun _ _ _ z => z) (fun _ _ _ z => z) σ H Q h
/-- name = value -/
theorem ds_set {Ew : Hp → Prop} {i : Nat} {x : Str} {e : Expr} {f : En → Option D} {pos pos' : Pos} (hN : X.N.Nodup) (hi : X.N[i]? = some x) (hx : Loc X.env.scope x) (he : PE X e (tD f)) (hs : swapsWith e (some (.Name x pos')) pos.line X.env = pure false := by rfl) (hf : X.fn x = true ∨ X.env.scope.names.lookup x = some .local := by first | exact .inl rfl | exact .inr rfl | assumption) :
    PS X (.Assign [.Name x pos'] e pos) (tDS Ew (setF i f)) := ds_asg (ps_set hN hi hx he hs hf) fun _ _ _ z => z
theorem ds_setR {Ew : Hp → Prop} {i : Nat} {x : Str} {e : Expr} {f : En → Option D} {pos pos' : Pos} (hN : X.N.Nodup) (hi : X.N[i]? = some x) (hx : Loc X.env.scope x) (he : PE X e (tD f)) (hs : swapsWith e (some (.Name x pos')) pos.line X.env = pure false := by rfl) (hf : X.fn x = true ∨ X.env.scope.names.lookup x = some .local := by first | exact .inl rfl | exact .inr rfl | assumption) :
    PS X (.Assign [.Name x pos'] e pos) (tDS Ew (setRF i f)) := ds_asgR (ps_set hN hi hx he hs hf) fun _ _ _ z => z
theorem ds_new {Ew : Hp → Prop} {i : Nat} {x : Str} {pos pos' p2 : Pos} (hN : X.N.Nodup) (hi : X.N[i]? = some x) (hx : Loc X.env.scope x) (hs : swapsWith (.List [] p2) (some (.Name x pos')) pos.line X.env = pure false := by rfl) (hf : X.fn x = true ∨ X.env.scope.names.lookup x = some .local := by first | exact .inl rfl | exact .inr rfl | assumption) :
    PS X (.Assign [.Name x pos'] (.List [] p2) pos) (tDS Ew (ownF i)) := ds_own (ps_set hN hi hx (pe_lst pa_nil) hs hf)
end
/-- what the top has written of a def -/
structure DefAt (K : PySem.W.Frag) (mg : Str → Option Value) (x : Str) (st : Stmt) (ps : List Str) : Prop where
  mk ::
  ex : ∃ f fd, Fun K x x st f fd ∧ mg x = some (.ref f) ∧ Binds K fd ps []
section
variable {P : Program} {w : World} {K : PySem.W.Frag} {mg : Str → Option Value} {base : Heap}
theorem DefAt.cal {x : Str} {st : Stmt} {N ps : List Str} {k : Nat} {F : ES → Option Out} (T : DefAt K mg x st ps) (S : FnScope N ps (defScope st))
    (hb : ∀ (cdv : Value) (A : Around) (outer : List Env) (s : Shared) (H : Hp) (E : XK) (f : Addr), Room k (A.deeper (envOfC x (defScope st) s.heap.objs.size f cdv)) →
      PSs (cxOf CX0 P w K mg base N x (defScope st) f cdv A outer s H E).nox (defBody st) (tDS (fun _ => False) F)) : C8.Cal P w K mg base (k + 1) x (spD ps.length (runF N.length F)) [] := by
  obtain ⟨f, fd, h1, h2, h3⟩ := T.ex
  exact cal_data h1 h2 h3 S fun cdv A outer s H E hr => hb cdv A outer s H E f hr
end
end DL
end Part_DL10
section Part_DL11
set_option Elab.async false
set_option linter.all false
set_option maxRecDepth 100000
set_option maxHeartbeats 2000000
set_option autoImplicit false
namespace DL
open PySem PySem.Spec PyProof.Rows L2 Evl

/-! ## what a list that is being filled is told of itself -/
mutual
/-- no list within -/
def noL : D → Bool
  | .lst _ => false
  | .adr _ _ => false
  | .tup ds => noLs ds
  | _ => true
def noLs : List D → Bool
  | [] => true
  | d :: r => noL d && noLs r
end
mutual
theorem Rep.past {H : Hp} {S : List Addr} {p : Addr} {xs : List V} (hp : H p = some (.lst xs)) : ∀ {d : D} {v : V}, noL d = true → Rep (hid H S) d v → Rep (hid H (p :: S)) d v
  | .non, _, _, h => h
  | .bl _, _, _, h => h
  | .int _, _, _, h => h
  | .lst _, _, n, _ => nomatch n
  | .adr _ _, _, n, _ => nomatch n
  | .tup _, _, n, ⟨a, ys, hv, ha, hr⟩ => by
    have hq := hid_sub a _ ha
    refine ⟨a, ys, hv, hid_of hq fun m => ?_, Reps.past hp n hr⟩
    rcases List.mem_cons.mp m with e | m
    · rw [e, hp] at hq
      cases hq
    · unfold hid at ha
      rw [if_pos m] at ha
      cases ha
  | .dic _, _, _, ⟨a, hv, ha⟩ => by
    have hq := hid_sub a _ ha
    refine ⟨a, hv, hid_of hq fun m => ?_⟩
    rcases List.mem_cons.mp m with e | m
    · rw [e, hp] at hq
      cases hq
    · unfold hid at ha
      rw [if_pos m] at ha
      cases ha
theorem Reps.past {H : Hp} {S : List Addr} {p : Addr} {xs : List V} (hp : H p = some (.lst xs)) : ∀ {ds : List D} {vs : List V}, noLs ds = true → Reps (hid H S) ds vs → Reps (hid H (p :: S)) ds vs
  | [], _, _, h => h
  | d :: ds, _, n, ⟨x, r, hv, h1, h2⟩ => by
    have n2 : noL d = true ∧ noLs ds = true := by
      unfold noLs at n
      exact (Bool.and_eq_true _ _).mp n
    exact ⟨x, r, hv, Rep.past hp n2.1 h1, Reps.past hp n2.2 h2⟩
end
/-- name.append(what is read with the list in sight) -/
def appRF (k : Nat) (f : En → Option D) : ES → Option Out := fun e => if e.own = some k then (match e.ρ[k]? with
  | some (some (.lst ds)) => (f e.ρ).bind fun d => if noL d = true ∧ ds.length + 1 < cap then some (.nx ⟨some k, e.ρ.set k (some (.lst (ds ++ [d])))⟩) else none
  | _ => none) else none
section
variable {X : Cx} {Ew : Hp → Prop} {st : Stmt} {f : En → Option D} {a : Expr} {pos : Pos}
theorem ds_appR {k : Nat} (h : PS X st (tDrop (tBM X.K "list" rAppend (tVar k) (tCons (tD f) tNil)))) : PS X st (tDS Ew (appRF k f)) := PS.imp h fun D σ H ⟨H0, S, e, o, hr, h2, h3⟩ => by
  obtain ⟨ow, h1⟩ := hr
  unfold appRF at h2
  split at h2
  · rename_i ho
    rcases h1.own with ⟨o1, o2⟩ | ⟨k', p, xs, ds, a1, a2, a3, a4, a5, a6⟩
    · rw [ho] at o1
      cases o1
    · rw [ho] at a1
      cases a1
      subst a2
      simp only [a5] at h2
      cases q : f e.ρ with
      | none => simp [q] at h2
      | some d =>
        simp only [q, Option.bind_some] at h2
        split at h2
        · rename_i hl
          cases h2
          obtain ⟨ow2, s2⟩ := SR.rel ⟨[p], h1⟩
          have o2 : ow2 = [] := by
            rcases s2.own with o | ⟨k, p, xs, ds, b1, _⟩
            · exact o.2
            · cases b1
          subst o2
          refine ⟨.ref p, a4, .inl ⟨rfl, xs, sq_of a3⟩, e.ρ, S, d, s2.ind2, s2.rep, q, fun v H1 e1 r1 => ⟨p, xs, v, rfl, rfl, e1 p _ a3, ?_, h3 _ _ (grow_ok h1 e1 ho a3 a4 a5 a6 (Reps.one (r1.past (e1 p _ a3) hl.1)))⟩⟩
          rw [a6.len]
          exact cap_lt (by have := hl.2; omega)
        · cases h2
  · cases h2
/-- minus a number -/
theorem de_neg {n : Int} {j : Nat} {p : Pos} : PE X (.UnaryOp .USub (.Constant (.int n) j p) pos) (tD (cE (.int (-n)))) := PE.imp (pe_un un_neg pe_int) fun σ H Q ⟨ρ, S, d, hS, hr, hf, hq⟩ => by
  cases hf
  exact ⟨n, rfl, hq _ H (Ex.refl H) rfl⟩
end
theorem bt_len : bootBuiltins "len" = some (.builtin "len") := PySem.boot_len
theorem bt_any : bootBuiltins "any" = some (.builtin "any") := by decide +kernel
theorem bt_all : bootBuiltins "all" = some (.builtin "all") := by decide +kernel
theorem bt_sorted : bootBuiltins "sorted" = some (.builtin "sorted") := by decide +kernel
theorem bt_tuple : bootBuiltins "tuple" = some (.type "tuple") := by decide +kernel
theorem bt_list : bootBuiltins "list" = some (.type "list") := by decide +kernel
theorem bt_int : bootBuiltins "int" = some (.type "int") := by decide +kernel
theorem bt_bool : bootBuiltins "bool" = some (.type "bool") := by decide +kernel
theorem bt_str : bootBuiltins "str" = some (.type "str") := by decide +kernel
theorem bt_set : bootBuiltins "set" = some (.type "set") := by decide +kernel
def ltG : D → D → Option D := iiG fun i j => .bl (decide (i < j))
def leG : D → D → Option D := iiG fun i j => .bl (decide (i ≤ j))
def gtG : D → D → Option D := iiG fun i j => .bl (decide (j < i))
def geG : D → D → Option D := iiG fun i j => .bl (decide (j ≤ i))
def addG : D → D → Option D := iiG fun i j => .int (i + j)
theorem rd_lt : RD (rI0 fun i j => .bl (decide (i < j))) ltG := rd_B0
theorem rd_le : RD (rI0 fun i j => .bl (decide (i ≤ j))) leG := rd_B0
theorem rd_gt : RD (rI0 fun i j => .bl (decide (j < i))) gtG := rd_B0
theorem rd_ge : RD (rI0 fun i j => .bl (decide (j ≤ i))) geG := rd_B0
theorem rd_add : RD (rI0 fun i j => .int (i + j)) addG := rd_I0
def subG : D → D → Option D := iiG fun i j => .int (i - j)
theorem rd_sub : RD (rI0 fun i j => .int (i - j)) subG := rd_I0
def tupE' (g : En → Option (List D)) : En → Option D := fun ρ => (g ρ).bind tupG
def lstE' (g : En → Option (List D)) : En → Option D := fun ρ => (g ρ).bind lstG
end DL
end Part_DL11
section Part_DL12
set_option Elab.async false
set_option linter.all false
set_option maxRecDepth 100000
set_option maxHeartbeats 2000000
set_option autoImplicit false
namespace DL
open PySem PySem.Spec PyProof.Rows L2 Evl
/-- name = [one], to be filled on -/
def own1F (k : Nat) (f : En → Option D) : ES → Option Out := fun e => if e.own = none ∧ k < e.ρ.length then (f e.ρ).map fun d => .nx ⟨some k, e.ρ.set k (some (.lst [d]))⟩ else none
section
variable {X : Cx} {Ew : Hp → Prop} {st : Stmt} {f : En → Option D}
theorem ds_own1 {k : Nat} (h : PS X st (tAsg (tLst (tCons (tD f) tNil)) (gName k))) : PS X st (tDS Ew (own1F k f)) := PS.imp h fun D σ H ⟨H0, S, e, o, hr, h2, h3⟩ => by
  obtain ⟨ow, h1⟩ := hr
  unfold own1F at h2
  split at h2
  · rename_i hk
    obtain ⟨ho, hk⟩ := hk
    have o2 : ow = [] := by
      rcases h1.own with o | ⟨k, p, xs, ds, a1, _⟩
      · exact o.2
      · rw [ho] at a1
        cases a1
    subst o2
    have ev : e.view = e.ρ := by
      unfold ES.view
      rw [ho]
    cases q : f e.ρ with
    | none => simp [q] at h2
    | some d =>
      simp only [q, Option.map_some, Option.some.injEq] at h2
      subst h2
      refine ev_of h1 (by rw [ev]; exact q) fun v H1 e1 r1 => ⟨(by decide : 1 ≤ sizeLine), fun p hp => h3 _ _ ⟨[p], ?_⟩⟩
      have g1 := h1.mono e1
      have hz : H0 p = none := by
        cases q : H0 p with
        | none => rfl
        | some o =>
          rw [g1.ex p o q] at hp
          cases hp
      have rp := g1.rep
      rw [ev] at rp
      have hl : σ.length = e.ρ.length := rp.len
      have hm : Ex (hid H1 S) (hid (upd H1 p (.lst [v])) ([p] ++ S)) := hid_more (Ex.new hp) fun a m => by
        rcases List.mem_append.mp m with m | m
        · exact .inr (by rw [(show a = p by simpa using m)]; exact hp)
        · exact .inl m
      refine ⟨g1.ex.trans (Ex.new hp), h1.ind, fun a m => ?_, fun a m => ?_, ?_, .inr ⟨k, p, [v], [d], rfl, rfl, upd_same, ?_, ?_, ?_⟩⟩
      · rw [(show a = p by simpa using m)]
        exact hz
      · rw [(show a = p by simpa using m), upd_same]
        exact fun z => nomatch z
      · show RepS (hid (upd H1 p (.lst [v])) ([p] ++ S)) (σ.set k (some (.ref p))) ((e.ρ.set k (some (.lst [d]))).set k none)
        rw [List.set_set]
        exact (rp.mono hm).any
      · rw [List.getElem?_set_self (by rw [hl]; exact hk)]
      · show (e.ρ.set k (some (.lst [d])))[k]? = _
        rw [List.getElem?_set_self hk]
      · exact Reps.one (r1.mono hm)
  · cases h2
end
end DL
end Part_DL12
section Part_DL13
set_option Elab.async false
set_option linter.all false
set_option maxRecDepth 100000
set_option maxHeartbeats 2000000
set_option autoImplicit false
namespace DL
open PySem PySem.Spec PyProof.Rows L2 Evl

/-! ## sorted(xs), xs rows of hands -/
def encR (xs : List Int) : PyData := .tuple (xs.map .int)
def encH (hs : List (List Int)) : PyData := .tuple (hs.map encR)
theorem alike_R (xs ys : List Int) : PySem.W.alike (encR xs) (encR ys) = true := by
  unfold encR
  simp only [PySem.W.alike]
  exact PySem.W.alike_ints xs ys
theorem alike_Rs : ∀ hs gs : List (List Int), PySem.W.alikeAll (hs.map encR) (gs.map encR) = true
  | [], _ => by simp [PySem.W.alikeAll]
  | _ :: _, [] => by simp [PySem.W.alikeAll]
  | h :: hs, g :: gs => by
    show PySem.W.alikeAll (encR h :: hs.map encR) (encR g :: gs.map encR) = true
    rw [PySem.W.alikeAll, alike_Rs hs gs, alike_R]
    rfl
theorem alike_H (hs gs : List (List Int)) : PySem.W.alike (encH hs) (encH gs) = true := by
  unfold encH
  simp only [PySem.W.alike]
  exact alike_Rs hs gs
theorem eqv_ints : ∀ xs ys : List Int, PyData.eqvAll (xs.map PyData.int) (ys.map PyData.int) = decide (xs = ys)
  | [], [] => by simp [PyData.eqvAll]
  | [], _ :: _ => by simp [PyData.eqvAll]
  | _ :: _, [] => by simp [PyData.eqvAll]
  | x :: xs, y :: ys => by
    simp only [List.map_cons, PyData.eqvAll, PyData.eqv, eqv_ints xs ys]
    by_cases h1 : x = y <;> by_cases h2 : xs = ys <;> simp [h1, h2]
theorem lt_R (xs ys : List Int) : PySem.W.dataLt (encR xs) (encR ys) = decide (xs < ys) := by
  unfold encR
  rw [PySem.W.dataLt_tuple]
  exact PySem.W.dataLt_ints xs ys
theorem lt_Rs : ∀ hs gs : List (List Int), PySem.W.rowLt (hs.map encR) (gs.map encR) = decide (hs < gs)
  | [], [] => by
    have e : PySem.W.rowLt [] [] = false := PySem.W.dataLt_ints [] []
    simp [e]
  | [], g :: gs => by
    have e : PySem.W.rowLt [] (encR g :: gs.map encR) = true := by
      unfold PySem.W.rowLt
      rw [PySem.W.toks_all_cons]
      simp only [PySem.W.keyToksAll]
      rw [PyProof.Rows.lex_diff (O := PyProof.Rows.itemOrd) (by simp)]
      rfl
    simpa using e
  | h :: hs, [] => by
    have e : PySem.W.rowLt (encR h :: hs.map encR) [] = false := by
      unfold PySem.W.rowLt
      rw [PySem.W.toks_all_cons]
      simp only [PySem.W.keyToksAll]
      rw [PyProof.Rows.lex_diff (O := PyProof.Rows.itemOrd) (by simp)]
      rfl
    simpa using e
  | h :: hs, g :: gs => by
    have e : PySem.W.rowLt (encR h :: hs.map encR) (encR g :: gs.map encR) = if h = g then PySem.W.rowLt (hs.map encR) (gs.map encR) else decide (h < g) := by
      unfold PySem.W.rowLt
      rw [PySem.W.dataLt_cons (alike_R h g), lt_R]
      have e1 : PyData.eqv (encR h) (encR g) = decide (h = g) := by
        unfold encR
        simp only [PyData.eqv]
        exact eqv_ints h g
      rw [e1]
      simp only [decide_eq_true_eq]
    show PySem.W.rowLt (encR h :: hs.map encR) (encR g :: gs.map encR) = _
    rw [e]
    by_cases hh : h = g
    · rw [if_pos hh, lt_Rs hs gs]
      simp [hh, List.cons_lt_cons_iff]
    · rw [if_neg hh]
      simp [hh, List.cons_lt_cons_iff]
def leH (p q : List (List Int)) : Bool := !decide (q < p)
theorem dataLe_H {β : Type} (x : β → List (List Int)) : PySem.W.dataLe false (fun b => encH (x b)) = fun p q => leH (x p) (x q) := by
  funext p q
  show (!PySem.W.dataLt (encH (x q)) (encH (x p))) = _
  unfold encH
  rw [PySem.W.dataLt_tuple]
  show (!PySem.W.rowLt ((x q).map encR) ((x p).map encR)) = _
  rw [lt_Rs]
  rfl
theorem depth_R : ∀ xs : List Int, (encR xs).depth ≤ 1 := fun xs => by
  unfold encR
  simp only [PyData.depth, PySem.W.depth_ints]
  omega
theorem depth_Rs : ∀ hs : List (List Int), PyData.depthAll (hs.map encR) ≤ 1
  | [] => by simp [PyData.depthAll]
  | h :: hs => by
    simp only [List.map_cons, PyData.depthAll]
    have := depth_R h
    have := depth_Rs hs
    omega
theorem depth_H (hs : List (List Int)) : (encH hs).depth ≤ 2 := by
  unfold encH
  simp only [PyData.depth]
  have := depth_Rs hs
  omega
def rSortH (K : PySem.W.Frag) : List V → Hp → VK → Prop := fun vs H Q => ∃ (a : Addr) (bs : List (V × List (List Int))), vs = [V.ref a] ∧ SqL K H a (bs.map (·.1)) ∧ (∀ b ∈ bs, Dp K H b.1 (encH b.2) ∧ b.2 ≠ []) ∧
  ∀ p : Addr, H p = none → Q (.ref p) (upd H p (.lst ((bs.mergeSort fun p q => leH p.2 q.2).map (·.1))))
section
variable {X : Cx}
theorem vals_each {us : List Value} : ∀ {bs : List (V × List (List Int))}, Vals (bs.map (·.1)) us → PySem.W.EachIs (fun (v : Value) (b : V × List (List Int)) => RelV b.1 v) us bs
  | [], h => by
    cases h
    exact .nil
  | b :: bs, h => by
    cases h with
    | cons h1 h2 => exact .cons h1 (vals_each h2)
theorem each_vals : ∀ {us : List Value} {bs : List (V × List (List Int))}, PySem.W.EachIs (fun (v : Value) (b : V × List (List Int)) => RelV b.1 v) us bs → Vals (bs.map (·.1)) us
  | _, [], h => by
    cases h
    exact .nil
  | _, b :: bs, h => by
    cases h with
    | cons h1 h2 => exact .cons h1 (each_vals h2)
theorem each_reads {pins : List (Addr × Obj)} {σ : L2.St} {H : Hp} {s : Shared} (I : Inv X pins σ H s) : ∀ {us : List Value} {bs : List (V × List (List Int))}, (∀ b ∈ bs, Dp X.K H b.1 (encH b.2)) → Vals (bs.map (·.1)) us → PySem.W.EachIs (fun v b => ∃ as, Reads s.heap v (encH b.2) as) us bs
  | _, [], _, h => by
    cases h
    exact .nil
  | _, b :: bs, hb, h => by
    cases h with
    | cons h1 h2 => exact .cons (Dp.reads I _ _ _ (hb b (List.mem_cons_self ..)) h1) (each_reads I (fun b' m => hb b' (List.mem_cons_of_mem _ m)) h2)
theorem cr_sortH (hu : X.A.units + 64 < cLine) : CallR X (.builtin "sorted") (rSortH X.K) := by
  intro pins s σ H vs us Q I r h
  obtain ⟨a, bs, rfl, hs, hb, q⟩ := h
  obtain ⟨its, rv, hl, hz⟩ := I.list hs
  rw [Vals.ref1 r]
  have hlen : its.length = bs.length := by rw [← rv.length, List.length_map]
  have hz' : bs.length ≤ sizeLine := by
    rw [List.length_map] at hz
    exact hz
  refine PySem.W.sorted_data (β := V × List (List Int)) (enc := fun b => encH b.2) (bs := bs) (R := fun v b => RelV b.1 v) hl.isList (vals_each rv) (each_reads I (fun b m => (hb b m).1) rv) (PySem.W.AllAlike.of fun b b' => alike_H _ _) (.inl fun d hd => ?_) hz' (fun b hm => ?_) fun out ho eo => ?_
  · obtain ⟨b, hm, rfl⟩ := List.mem_map.mp hd
    cases q : b.2 with
    | nil => exact absurd q (hb b hm).2
    | cons x r => exact ⟨_, _, rfl⟩
  · have := depth_H b.2
    omega
  · have rw' := each_vals eo
    rw [dataLe_H (fun b : V × List (List Int) => b.2)] at rw'
    obtain ⟨ep, he'⟩ := PyProof.Rows.sortedAll_at s.heap its out.toArray
    have hl2 : ((bs.mergeSort fun p q => leH p.2 q.2).map (·.1)).length ≤ sizeLine := by
      rw [List.length_map, List.length_mergeSort]
      exact hz'
    exact ⟨.ref _, upd H (s.heap.objs.size + 1) (.lst ((bs.mergeSort fun p q => leH p.2 q.2).map (·.1))), I.laid (t' := s.toks) (fun _ _ => PyProof.Rows.sortedAll_old) (Nat.le_succ _) ⟨hl2, out, ep, rw', he'⟩, rfl, q _ (I.hok.fresh (Nat.le_succ _))⟩
end
end DL
end Part_DL13
section Part_DL14
set_option Elab.async false
set_option linter.all false
set_option maxRecDepth 100000
set_option maxHeartbeats 2000000
set_option autoImplicit false
namespace DL
open PySem PySem.Spec PyProof.Rows L2 Evl

def dRow (h : List Int) : D := .tup (h.map .int)
def dHs (hs : List (List Int)) : D := .tup (hs.map dRow)
def rowsOf : List D → Option (List (List Int))
  | [] => some []
  | .tup ds :: r => (intsOf ds).bind fun h => (rowsOf r).map fun t => h :: t
  | _ :: _ => none
def handsOf : List D → Option (List (List (List Int)))
  | [] => some []
  | .tup ds :: r => (rowsOf ds).bind fun hs => if hs.length = 0 then none else (handsOf r).map fun t => hs :: t
  | _ :: _ => none
theorem intsOf_eq : ∀ {ds : List D} {ns : List Int}, intsOf ds = some ns → ds = ns.map .int
  | [], ns, h => by
    unfold intsOf at h
    cases h
    rfl
  | d :: ds, ns, h => by
    cases d with
    | int i =>
      unfold intsOf at h
      cases q : intsOf ds with
      | none => simp [q] at h
      | some m =>
        simp only [q, Option.map_some, Option.some.injEq] at h
        subst h
        rw [intsOf_eq q]
        rfl
    | _ => simp [intsOf] at h
theorem rowsOf_eq : ∀ {ds : List D} {hs : List (List Int)}, rowsOf ds = some hs → ds = hs.map dRow
  | [], hs, h => by
    unfold rowsOf at h
    cases h
    rfl
  | d :: ds, hs, h => by
    cases d with
    | tup es =>
      unfold rowsOf at h
      cases q1 : intsOf es with
      | none => simp [q1] at h
      | some m =>
        cases q : rowsOf ds with
        | none => simp [q, q1] at h
        | some t =>
          simp only [q1, q, Option.bind_some, Option.map_some, Option.some.injEq] at h
          subst h
          rw [rowsOf_eq q, intsOf_eq q1]
          rfl
    | _ => simp [rowsOf] at h
theorem rowsOf_map : ∀ hs : List (List Int), rowsOf (hs.map dRow) = some hs
  | [] => by simp [rowsOf]
  | h :: hs => by simp [rowsOf, rowsOf_map hs, dRow, intsOf_map h]
theorem handsOf_eq : ∀ {ds : List D} {hs : List (List (List Int))}, handsOf ds = some hs → ds = hs.map dHs ∧ ∀ h ∈ hs, h ≠ []
  | [], hs, h => by
    unfold handsOf at h
    cases h
    exact ⟨rfl, fun _ m => nomatch m⟩
  | d :: ds, hs, h => by
    cases d with
    | tup es =>
      unfold handsOf at h
      cases q1 : rowsOf es with
      | none => simp [q1] at h
      | some m =>
        simp only [q1, Option.bind_some] at h
        split at h
        · cases h
        · rename_i hm
          cases q : handsOf ds with
          | none => simp [q] at h
          | some t =>
            simp only [q, Option.map_some, Option.some.injEq] at h
            subst h
            obtain ⟨e, hn⟩ := handsOf_eq q
            refine ⟨by rw [e, rowsOf_eq q1]; rfl, fun x hx => ?_⟩
            rcases List.mem_cons.mp hx with z | z
            · rw [z]
              exact fun y => hm (by rw [y]; rfl)
            · exact hn x z
    | _ => simp [handsOf] at h
theorem handsOf_map : ∀ hs : List (List (List Int)), (∀ h ∈ hs, h ≠ []) → handsOf (hs.map dHs) = some hs
  | [], _ => by simp [handsOf]
  | h :: hs, hn => by
    have h1 : h ≠ [] := hn h (List.mem_cons_self ..)
    simp [handsOf, handsOf_map hs (fun x m => hn x (List.mem_cons_of_mem _ m)), dHs, rowsOf_map h, h1]
theorem toPys_ints : ∀ ns : List Int, toPys (ns.map .int) = ns.map PyData.int
  | [] => by simp [toPys]
  | n :: ns => by simp [toPys, toPy, toPys_ints ns]
theorem toPys_rows : ∀ hs : List (List Int), toPys (hs.map dRow) = hs.map encR
  | [] => by simp [toPys]
  | h :: hs => by simp [toPys, toPy, toPys_rows hs, dRow, encR, toPys_ints h]
theorem toPy_Hs (hs : List (List Int)) : toPy (dHs hs) = encH hs := by
  unfold dHs encH
  simp only [toPy, toPys_rows]
theorem dOks_ints (n : Nat) : ∀ ns : List Int, dOks n (ns.map .int) = true
  | [] => by simp [dOks]
  | a :: ns => by
    have : dOk n (.int a) = true := by cases n <;> rfl
    simp [dOks, this, dOks_ints n ns]
theorem dOks_rows (n : Nat) : ∀ hs : List (List Int), dOks (n + 1) (hs.map dRow) = true
  | [] => by simp [dOks]
  | h :: hs => by simp [dOks, dOk, dRow, dOks_ints n h, dOks_rows n hs]
theorem dOk_Hs (n : Nat) (hs : List (List Int)) : dOk (n + 2) (dHs hs) = true := by
  unfold dHs
  simp only [dOk, dOks_rows]
theorem dOks_Hs (n : Nat) : ∀ hss : List (List (List Int)), dOks (n + 2) (hss.map dHs) = true
  | [] => by simp [dOks]
  | h :: hs => by simp only [List.map_cons, dOks, dOk_Hs n h, dOks_Hs n hs]; rfl
def sortHG : List D → Option D
  | [.lst ds] => (handsOf ds).map fun hss => .lst ((hss.mergeSort leH).map dHs)
  | _ => none
theorem reps_zip {H : Hp} : ∀ {hss : List (List (List Int))} {xs : List V}, Reps H (hss.map dHs) xs → (xs.zip hss).map (·.1) = xs ∧ (xs.zip hss).map (·.2) = hss ∧ ∀ b ∈ xs.zip hss, Rep H (dHs b.2) b.1
  | [], xs, h => by
    cases (show xs = [] from h)
    exact ⟨rfl, rfl, fun _ m => nomatch m⟩
  | hs :: hss, _, ⟨x, r, hv, h1, h2⟩ => by
    subst hv
    obtain ⟨e1, e2, e3⟩ := reps_zip h2
    refine ⟨by simp [e1], by simp [e2], fun b m => ?_⟩
    rw [List.zip_cons_cons] at m
    rcases List.mem_cons.mp m with z | z
    · rw [z]
      exact h1
    · exact e3 b z
theorem reps_of {H : Hp} : ∀ {bs : List (V × List (List Int))}, (∀ b ∈ bs, Rep H (dHs b.2) b.1) → Reps H ((bs.map (·.2)).map dHs) (bs.map (·.1))
  | [], _ => rfl
  | b :: bs, h => ⟨b.1, bs.map (·.1), rfl, h b (List.mem_cons_self ..), reps_of fun b' m => h b' (List.mem_cons_of_mem _ m)⟩
theorem rc_sortH {K : PySem.W.Frag} : RC (rSortH K) sortHG := fun S ds d vs H Q hS hr hg hq => by
  match ds, hr, hg with
  | [.lst es], hr, hg =>
    unfold sortHG at hg
    cases q : handsOf es with
    | none => simp [q] at hg
    | some hss =>
      simp only [q, Option.map_some, Option.some.injEq] at hg
      subst hg
      obtain ⟨x, r, hv, ⟨a, xs, hx, ha, hrs⟩, h2⟩ := hr
      cases (show r = [] from h2)
      subst hv hx
      obtain ⟨he, hn⟩ := handsOf_eq q
      subst he
      obtain ⟨e1, e2, e3⟩ := reps_zip hrs
      refine ⟨a, xs.zip hss, rfl, by rw [e1]; exact sq_of (hid_sub a _ ha), fun b m => ⟨?_, ?_⟩, fun p hp => hq _ _ (Ex.new hp) ?_⟩
      · rw [← toPy_Hs]
        exact dp_of 2 _ _ (dOk_Hs 0 b.2) ((e3 b m).mono hid_sub)
      · refine hn b.2 ?_
        have : b.2 ∈ (xs.zip hss).map (·.2) := List.mem_map.mpr ⟨b, m, rfl⟩
        rw [e2] at this
        exact this
      · have hm : ((xs.zip hss).mergeSort fun p q => leH p.2 q.2).map (·.2) = hss.mergeSort leH := by
          rw [List.map_mergeSort (s := leH) (f := fun b : V × List (List Int) => b.2) (fun _ _ _ _ => rfl), e2]
        rw [← hm]
        refine new_lst hS hp (reps_of fun b m => e3 b ?_)
        exact (List.mergeSort_perm _ _).mem_iff.mp m

/-! ## the order of rows of hands -/
theorem leH_iff (p q : List (List Int)) : leH p q = true ↔ p ≤ q := by
  unfold leH
  rw [Bool.not_eq_true', decide_eq_false_iff_not]
  exact Iff.rfl
theorem leH_trans : ∀ a b c : List (List Int), leH a b = true → leH b c = true → leH a c = true := fun a b c h1 h2 => by
  rw [leH_iff] at *
  exact List.le_trans h1 h2
theorem leH_total : ∀ a b : List (List Int), (leH a b || leH b a) = true := fun a b => by
  rw [Bool.or_eq_true, leH_iff, leH_iff]
  exact List.le_total a b
theorem leH_antisymm {a b : List (List Int)} (h1 : leH a b = true) (h2 : leH b a = true) : a = b := by
  rw [leH_iff] at *
  exact List.le_antisymm h1 h2
theorem sortH_uniq {as bs : List (List (List Int))} (h : as.Perm bs) : as.mergeSort leH = bs.mergeSort leH := by
  have p : (as.mergeSort leH).Perm (bs.mergeSort leH) := (List.mergeSort_perm as leH).trans (h.trans (List.mergeSort_perm bs leH).symm)
  refine List.Perm.eq_of_pairwise (le := fun a b => leH a b = true) (fun a b _ _ h1 h2 => leH_antisymm h1 h2) ?_ ?_ p
  · exact List.pairwise_mergeSort leH_trans leH_total as
  · exact List.pairwise_mergeSort leH_trans leH_total bs
end DL
end Part_DL14
section Part_DL15
set_option Elab.async false
set_option linter.all false
set_option maxRecDepth 100000
set_option maxHeartbeats 2000000
set_option autoImplicit false
namespace DL
open PySem PySem.Spec PyProof.Rows L2 Evl

/-! ## sorted(set(xs)), xs a list of pairs of small whole numbers -/
def dPr (p : Int × Int) : D := .tup [.int p.1, .int p.2]
def cd (p : Int × Int) : Int := p.1 * 64 + p.2
def dc (c : Int) : Int × Int := (c / 64, c % 64)
def inB (p : Int × Int) : Prop := (0 ≤ p.1 ∧ p.1 < 64) ∧ 0 ≤ p.2 ∧ p.2 < 64
instance : DecidablePred inB := fun p => inferInstanceAs (Decidable ((0 ≤ p.1 ∧ p.1 < 64) ∧ 0 ≤ p.2 ∧ p.2 < 64))
theorem dc_cd {p : Int × Int} (h : inB p) : dc (cd p) = p := by
  obtain ⟨x, y⟩ := p
  obtain ⟨⟨h1, h2⟩, h3, h4⟩ := h
  simp only at h1 h2 h3 h4
  unfold dc cd
  simp only
  have e1 : (x * 64 + y) / 64 = x := by omega
  have e2 : (x * 64 + y) % 64 = y := by omega
  rw [e1, e2]
def prsOf : List D → Option (List (Int × Int))
  | [] => some []
  | .tup [.int x, .int y] :: r => if inB (x, y) then (prsOf r).map fun t => (x, y) :: t else none
  | _ :: _ => none
theorem prsOf_eq : ∀ {ds : List D} {ps : List (Int × Int)}, prsOf ds = some ps → ds = ps.map dPr ∧ ∀ p ∈ ps, inB p
  | [], ps, h => by
    unfold prsOf at h
    cases h
    exact ⟨rfl, fun _ m => nomatch m⟩
  | d :: ds, ps, h => by
    unfold prsOf at h
    split at h
    · exact absurd (by assumption : d :: ds = []) (List.cons_ne_nil _ _)
    · rename_i x y r e
      cases e
      split at h
      · rename_i hb
        cases q : prsOf ds with
        | none => simp [q] at h
        | some t =>
          simp only [q, Option.map_some, Option.some.injEq] at h
          subst h
          obtain ⟨e1, e2⟩ := prsOf_eq q
          refine ⟨by rw [e1]; rfl, fun p m => ?_⟩
          rcases List.mem_cons.mp m with z | z
          · rw [z]
            exact hb
          · exact e2 p z
      · cases h
    · cases h
theorem prsOf_map : ∀ {ps : List (Int × Int)}, (∀ p ∈ ps, inB p) → prsOf (ps.map dPr) = some ps
  | [], _ => by simp [prsOf]
  | p :: ps, h => by
    show prsOf (.tup [.int p.1, .int p.2] :: ps.map dPr) = _
    unfold prsOf
    rw [if_pos (h p (List.mem_cons_self ..)), prsOf_map fun q m => h q (List.mem_cons_of_mem _ m)]
    rfl
def usortP (ps : List (Int × Int)) : List (Int × Int) := (usort (ps.map cd)).map dc
def usortTE (f : En → Option D) : En → Option D := fun ρ => (f ρ).bind fun d => match d with
  | .lst ds => (prsOf ds).bind fun ps => if ps.length < 64 then some (.lst ((usortP ps).map dPr)) else none
  | _ => none
/-- where the pairs lie -/
theorem reps_prs {H : Hp} : ∀ {ps : List (Int × Int)} {xs : List V}, Reps H (ps.map dPr) xs → ∃ ks : List (Addr × List Int), xs = ks.map (fun p => V.ref p.1) ∧ ks.map (·.2) = ps.map (fun p => [p.1, p.2]) ∧ ∀ k ∈ ks, H k.1 = some (.tup (k.2.map V.int))
  | [], xs, h => by
    cases (show xs = [] from h)
    exact ⟨[], rfl, rfl, fun _ m => nomatch m⟩
  | p :: ps, _, ⟨x, r, hv, ⟨a, ys, hx, ha, u, r1, hu, h1, w, r2, hw, h3, h4⟩, h2⟩ => by
    obtain ⟨ks, e1, e2, e3⟩ := reps_prs h2
    cases (show r2 = [] from h4)
    cases (show u = V.int p.1 from h1)
    cases (show w = V.int p.2 from h3)
    subst hv hx hw hu
    refine ⟨(a, [p.1, p.2]) :: ks, by rw [e1]; rfl, by simp [e2], fun k m => ?_⟩
    rcases List.mem_cons.mp m with z | z
    · rw [z]
      exact ha
    · exact e3 k z
theorem reps_ks {H : Hp} : ∀ {L : List (Addr × List Int)} {ps : List (Int × Int)}, L.map (·.2) = ps.map (fun p => [p.1, p.2]) → (∀ k ∈ L, H k.1 = some (.tup (k.2.map V.int))) → Reps H (ps.map dPr) (L.map fun k => V.ref k.1)
  | [], [], _, _ => rfl
  | [], _ :: _, h, _ => by simp at h
  | _ :: _, [], h, _ => by simp at h
  | k :: L, p :: ps, h, hk => by
    simp only [List.map_cons, List.cons.injEq] at h
    refine ⟨_, _, rfl, ⟨k.1, k.2.map V.int, rfl, hk k (List.mem_cons_self ..), ?_⟩, reps_ks h.2 fun q m => hk q (List.mem_cons_of_mem _ m)⟩
    rw [h.1]
    exact ⟨_, _, rfl, rfl, _, _, rfl, rfl, rfl⟩
section
variable {X : Cx} {a b c e : Expr} {fa fb fc : En → Option D} {pos p p2 q : Pos}
theorem de_usortT (hc : X.calm = true) (hg : Gl X "sorted") (hm : X.mg "sorted" = none) (hg2 : Gl X "set") (hm2 : X.mg "set" = none) (hu : X.A.units + 64 < cLine) (ha : PE X a (tD fa))
    (hs : starEach [a] X.env = (false, eval a X.env) :: starEach [] X.env := by rfl) (hs2 : starEach [.Call (.Name "set" p2) [a] [] q] X.env = (false, eval (.Call (.Name "set" p2) [a] [] q) X.env) :: starEach [] X.env := by rfl) :
    PE X (.Call (.Name "sorted" p) [.Call (.Name "set" p2) [a] [] q] [] pos) (tD (usortTE fa)) :=
  PE.imp (pe_callB (cr_sortedT hc) hg hm (by decide +kernel) (pa_cons (pe_callTy (cr_setOfT hc hu) hg2 hm2 (by decide +kernel) (pa_cons ha pa_nil hs) (by decide) (by decide) hs rfl) pa_nil hs2) (by decide) (by decide) hs2 rfl) fun σ H Q ⟨ρ, S, d, hS, hp, hf, hq⟩ => by
  unfold usortTE at hf
  cases q1 : fa ρ with
  | none => simp [q1] at hf
  | some dx =>
    simp only [q1, Option.bind_some] at hf
    cases dx with
    | lst ds =>
      simp only at hf
      cases q3 : prsOf ds with
      | none => simp [q3] at hf
      | some ps =>
        simp only [q3, Option.bind_some] at hf
        split at hf
        · rename_i hl
          cases hf
          obtain ⟨e, hB⟩ := prsOf_eq q3
          subst e
          refine ⟨ρ, S, _, hS, hp, q1, fun v H1 e1 r1 => ?_⟩
          obtain ⟨l, xs, hv, hl1, hr⟩ := r1
          obtain ⟨ks, k1, k2, k3⟩ := reps_prs hr
          subst hv k1
          have hkl : ks.length = ps.length := by
            have := congrArg List.length k2
            simpa using this
          have hS1 := hS.mono e1
          have k4 : ∀ k ∈ ks, H1 k.1 = some (.tup (k.2.map V.int)) := fun k m => hid_sub _ _ (k3 k m)
          refine ⟨l, ks, rfl, sq_of (hid_sub l _ hl1), fun k m => st_of (k4 k m), by omega, fun t L ht hL1 hL2 => ?_⟩
          have e2 : Ex H1 (upd H1 t (SetTO X.prog X.w t L)) := Ex.new ht
          have inP : ∀ k ∈ L, ∃ p ∈ ps, k.2 = [p.1, p.2] := fun k m => by
            have : k.2 ∈ ks.map (·.2) := List.mem_map.mpr ⟨k, hL1 k m, rfl⟩
            rw [k2] at this
            obtain ⟨p, m1, m2⟩ := List.mem_map.mp this
            exact ⟨p, m1, m2.symm⟩
          refine ⟨t, L, 2, 64, rfl, upd_same, fun k m => st_of (e2 _ _ (k4 k (hL1 k m))), by decide, fun k m => ?_, fun L' z pm nd _ pw hz => ?_⟩
          · obtain ⟨p, m1, m2⟩ := inP k m
            obtain ⟨⟨b1, b2⟩, b3, b4⟩ := hB p m1
            rw [m2]
            refine ⟨rfl, fun i mi => ?_⟩
            simp only [List.mem_cons, List.not_mem_nil, or_false] at mi
            rcases mi with z | z
            · rw [z]
              exact ⟨b1, b2⟩
            · rw [z]
              exact ⟨b3, b4⟩
          · have inP' : ∀ k ∈ L', ∃ p ∈ ps, k.2 = [p.1, p.2] := fun k m => inP k (pm.mem_iff.mp m)
            have code_of : ∀ k ∈ L', ∀ p : Int × Int, k.2 = [p.1, p.2] → TS.code 64 k.2 = cd p := fun k _ p e => by
              rw [e, code_pair]
              rfl
            have inj : ∀ k ∈ L', ∀ k' ∈ L', TS.code 64 k.2 = TS.code 64 k'.2 → k.2 = k'.2 := fun k m k' m' e => by
              obtain ⟨p, m1, m2⟩ := inP' k m
              obtain ⟨p', m1', m2'⟩ := inP' k' m'
              rw [code_of k m p m2, code_of k' m' p' m2'] at e
              have := congrArg dc e
              rw [dc_cd (hB p m1), dc_cd (hB p' m1')] at this
              rw [m2, m2', this]
            have up : (L'.map fun k => TS.code 64 k.2).Pairwise (· < ·) := by
              rw [List.pairwise_map]
              have nd' : L'.Pairwise fun k k' => k.2 ≠ k'.2 := List.pairwise_map.mp nd
              refine (pw.and nd').imp_of_mem fun {k k'} m m' h => ?_
              have ne : TS.code 64 k.2 ≠ TS.code 64 k'.2 := fun z => h.2 (inj k m k' m' z)
              have := h.1
              omega
            have em : (L'.map fun k => TS.code 64 k.2) = usort (ps.map cd) := lt_uniq (fun c => by
              rw [usort_mem]
              constructor
              · intro m
                obtain ⟨k, m1, m2⟩ := List.mem_map.mp m
                obtain ⟨p, m3, m4⟩ := inP' k m1
                rw [← m2, code_of k m1 p m4]
                exact List.mem_map.mpr ⟨p, m3, rfl⟩
              · intro m
                obtain ⟨p, m1, m2⟩ := List.mem_map.mp m
                have : [p.1, p.2] ∈ ks.map (·.2) := by
                  rw [k2]
                  exact List.mem_map.mpr ⟨p, m1, rfl⟩
                obtain ⟨k, n1, n2⟩ := List.mem_map.mp this
                obtain ⟨k', n3, n4⟩ := List.mem_map.mp (hL2 k n1)
                have m3 : k' ∈ L' := pm.mem_iff.mpr n3
                refine List.mem_map.mpr ⟨k', m3, ?_⟩
                rw [code_of k' m3 p (n4.trans n2), m2]) up (usort_lt _)
            have ek : L'.map (·.2) = (usortP ps).map fun p => [p.1, p.2] := by
              unfold usortP
              rw [← em, List.map_map, List.map_map]
              refine List.map_congr_left fun k m => ?_
              obtain ⟨p, m1, m2⟩ := inP' k m
              show k.2 = [(dc (TS.code 64 k.2)).1, (dc (TS.code 64 k.2)).2]
              rw [code_of k m p m2, dc_cd (hB p m1)]
              exact m2
            have hS2 := hS1.mono e2
            have st : ∀ k ∈ L', hid (upd H1 t (SetTO X.prog X.w t L)) S k.1 = some (.tup (k.2.map V.int)) := fun k m => hid_mono e2 _ _ (k3 k (hL1 k (pm.mem_iff.mp m)))
            exact hq _ _ ((e1.trans e2).trans (Ex.new hz)) (new_lst hS2 hz (reps_ks ek st))
        · cases hf
    | _ => simp at hf
end
end DL
end Part_DL15
section Part_DL16
set_option Elab.async false
set_option linter.all false
set_option maxRecDepth 100000
set_option maxHeartbeats 2000000
set_option autoImplicit false
namespace DL
open PySem PySem.Spec PyProof.Rows L2 Evl

/-! ## an own exception -/
/-- what the top says of the class x (no __init__ of its own, no argument): it may be made and raised -/
structure OwnX (K : PySem.W.Frag) (mg : Str → Option Value) (x : Str) (C : Addr) : Prop where
  mk ::
  base : ∃ B newId initId bmB, ExcBaseFacts B newId initId bmB ∧ PySem.W.excIn K C bmB newId = true
  gC : mg x = some (.ref C)
  kC : PySem.W.keepIn K (.ref C) = true
  exC : PySem.W.subIn K (.ref C) (.type "BaseException") = some true
  tyC : PySem.W.typeIn K (.ref C) = some (.type "type")
section
variable {X : Cx} {C : Addr} {x : Str} {p pos pos2 : Pos} {W : WX} {Ew : Hp → Prop}
theorem pmk_own0 (T : OwnX X.K X.mg x C) (hg : Gl X x) (hdb : (x == ("__debug__" : Str)) = false := by decide) : PMk X (.Call (.Name x p) [] [] pos) (fun _ H Q => Q (.ref C) none H) := by
  intro pins s σ H Q I h
  obtain ⟨B, newId, initId, bmB, F, q⟩ := T.base
  refine wpAny_Call_Name_kw (ld_glob I hg T.gC ?_ hdb)
  refine PySem.W.callWith_K0 I.kIn T.kC ?_
  show wpAny _ _ (call (.ref C) []) _ _ _
  obtain ⟨bm, N, nm, qn, bs, hdct, sn, sub, ab, col, dd, k0, k1, k2, k3, k5, mN, hC, hN, hni, T2⟩ := exc_obj I.kIn q
  exact wpAny_call_exc_subT F T2 hC hN hni (fun h' e hm => mk_of I hm (raises_own T.exC T.tyC) h (I.hok.gone hm.new)) (Nat.zero_le _)
theorem ds_raise (hc : X.calm = true) (tk : Takes X W) (T : OwnX X.K X.mg x C) (hW : ∀ σ H, Ew H → W (.ref C) none σ H) (hg : Gl X x) (hdb : (x == ("__debug__" : Str)) = false := by decide) :
    PS X (.Raise (some (.Call (.Name x p) [] [] pos)) none pos2) (tDS Ew raiseF) := PS.imp (ps_raise hc tk (pmk_own0 T hg hdb)) fun D σ H ⟨H0, S, e, o, ⟨ow, h1⟩, h2, h3⟩ => by
  unfold raiseF at h2
  cases h2
  exact hW σ H (h3 H h1.ex)
end
/-- a def's promise by data, where it may raise the class at C (then the answer is none) -/
def spX (C : Addr) (n : Nat) (gd : List D → Option (Option D)) : Sp := fun vs H Q E => ∃ S ds r, InD S H ∧ Reps (hid H S) ds vs ∧ ds.length = n ∧ gd ds = some r ∧ (∀ d, r = some d → ∀ v H', Ex H H' → Rep (hid H' S) d v → Q v H') ∧ (r = none → ∀ H', Ex H H' → E (.ref C) none H')
def runX (m : Nat) (F : ES → Option Out) (ds : List D) : Option (Option D) := (F ⟨none, ds.map some ++ List.replicate (m - ds.length) none⟩).map fun o => match o with
  | .rt d => some d
  | .nx _ => some .non
  | .ex => none
section
variable {P : Program} {w : World} {K : PySem.W.Frag} {mg : Str → Option Value} {base : Heap}
theorem fn_dataX {x qual : Str} {st : Stmt} {f C : Addr} {fd : FuncData} {N ps : List Str} {k : Nat} {F : ES → Option Out} (Fn : Fun K x qual st f fd) (S : FnScope N ps (defScope st))
    (hb : ∀ (cdv : Value) (A : Around) (outer : List Env) (s : Shared) (H : Hp) (E : XK), Room k (A.deeper (envOfC qual (defScope st) s.heap.objs.size f cdv)) →
      PSs (cxOf (L2.CX P w) P w K mg base N qual (defScope st) f cdv A outer s H E) (defBody st) (tDS (fun H => E (.ref C) none H) F)) : FnOk P w K mg base (L2.CX P w) (k + 1) f fd ps (spX C ps.length (runX N.length F)) := by
  refine Fn.okX S (fun vs H Q E ⟨T, ds, d, h1, h2, h3, _⟩ => by rw [h2.len]; exact h3) fun cdv A outer s H vs Q E hr ⟨T, ds, d, h1, h2, h3, h4, h5, h6⟩ => ⟨_, hb cdv A outer s H E hr, ?_⟩
  unfold runX at h4
  cases q : F ⟨none, ds.map some ++ List.replicate (N.length - ds.length) none⟩ with
  | none => simp [q] at h4
  | some o =>
    simp only [q, Option.map_some, Option.some.injEq] at h4
    refine ⟨H, T, _, o, SR.start h1 ?_, q, ?_⟩
    · unfold L2.start
      rw [h2.len]
      exact reps_start h2 _
    · cases o with
      | rt d' => exact fun v H' e r => h5 d' h4.symm v H' e r
      | nx e' => exact fun σ' H' s' => h5 .non h4.symm .non H' (let ⟨_, z⟩ := s'; z.ex) rfl
      | ex => exact fun H' e => h6 h4.symm H' e
/-- a def that may raise, by its name -/
def CalX (P : Program) (w : World) (K : PySem.W.Frag) (mg : Str → Option Value) (base : Heap) (k : Nat) (x : Str) (sp : Sp) : Prop := ∃ f fd ps, FnOk P w K mg base (L2.CX P w) k f fd ps sp ∧ mg x = some (.ref f) ∧ PySem.W.keepIn K (.ref f) = true ∧ Binds K fd ps []
theorem DefAt.calX {x : Str} {st : Stmt} {N ps : List Str} {k : Nat} {C : Addr} {F : ES → Option Out} (T : DefAt K mg x st ps) (S : FnScope N ps (defScope st))
    (hb : ∀ (cdv : Value) (A : Around) (outer : List Env) (s : Shared) (H : Hp) (E : XK) (f : Addr), Room k (A.deeper (envOfC x (defScope st) s.heap.objs.size f cdv)) →
      PSs (cxOf (L2.CX P w) P w K mg base N x (defScope st) f cdv A outer s H E) (defBody st) (tDS (fun H => E (.ref C) none H) F)) : CalX P w K mg base (k + 1) x (spX C ps.length (runX N.length F)) := by
  obtain ⟨f, fd, h1, h2, h3⟩ := T.ex
  exact ⟨f, fd, ps, fn_dataX h1 S fun cdv A outer s H E hr => hb cdv A outer s H E f hr, h2, h1.kp, h3⟩
/-- what the top says of NotMade, at C, and of HoldError, at CH -/
structure TxtX (K : PySem.W.Frag) (mg : Str → Option Value) (C CH : Addr) : Prop where
  own : OwnX K mg "NotMade" C
  exc : ExcC K C
  gH : mg "HoldError" = some (.ref CH)
  ex : PySem.W.exmOne K (.ref C) (.ref CH) = some true
  kit : PySem.W.kitOne K (.ref C) (.ref C) = some true
end
end DL
end Part_DL16
section Part_DL17
set_option Elab.async false
set_option linter.all false
set_option maxRecDepth 100000
set_option maxHeartbeats 2000000
set_option autoImplicit false
namespace DL
open PySem PySem.Spec PyProof.Rows L2 Evl

/-! ## a dict whose keys are rows of hands -/
def keyR (h : List Int) : NestedKey := .tup (h.map .num)
def keyH (hs : List (List Int)) : NestedKey := .tup (hs.map keyR)
theorem num_inj {a b : List Int} (h : a.map NestedKey.num = b.map NestedKey.num) : a = b := (List.map_inj_right fun x y e => by injection e).mp h
theorem keyR_inj {a b : List Int} (h : keyR a = keyR b) : a = b := by
  unfold keyR at h
  injection h with h
  exact num_inj h
theorem keyH_inj {a b : List (List Int)} (h : keyH a = keyH b) : a = b := by
  unfold keyH at h
  injection h with h
  exact (List.map_inj_right fun x y e => keyR_inj e).mp h
theorem depth_nums : ∀ h : List Int, NestedKey.depthAll (h.map .num) ≤ 0
  | [] => by simp [NestedKey.depthAll]
  | x :: h => by
    have := depth_nums h
    simp only [List.map_cons, NestedKey.depthAll, NestedKey.depth]
    omega
theorem depth_keyRs : ∀ hs : List (List Int), NestedKey.depthAll (hs.map keyR) ≤ 1
  | [] => by simp [NestedKey.depthAll]
  | h :: hs => by
    have := depth_keyRs hs
    have := depth_nums h
    simp only [List.map_cons, NestedKey.depthAll, keyR, NestedKey.depth]
    omega
theorem depth_keyH (hs : List (List Int)) : (keyH hs).depth ≤ 8 := by
  have := depth_keyRs hs
  unfold keyH
  simp only [NestedKey.depth]
  omega
abbrev KEn := NestedKey × Addr × Value
/-- the dict at d: its entries, with where the keys stand -/
def FO (P : Program) (w : World) (d : Addr) (xs : List KEn) : HO :=
  .ext fun h => ∃ o es ep, h.get? d = some o ∧ o.ExactDict ∧ o.data = .dict es ep ∧ es.toList = xs.map (entryOfKey (nestedKind P w)) ∧ (xs.map (·.1)).Nodup ∧ xs.length ≤ sizeLine ∧ (d == sysModules) = false
/-- an entry's key is there -/
def KOk (H : Hp) (y : KEn) : Prop := ∃ hs, y.1 = keyH hs ∧ Rep H (dHs hs) (.ref y.2.1)
theorem KOk.mono {H H' : Hp} {y : KEn} (e : Ex H H') (k : KOk H y) : KOk H' y := let ⟨hs, a, b⟩ := k; ⟨hs, a, b.mono e⟩
section
variable {X : Cx} {pins : List (Addr × Obj)} {σ : L2.St} {H : Hp} {s : Shared}
theorem nums_key (I : Inv X pins σ H s) : ∀ {h : List Int} {xs : List V} {us : List Value}, Reps H (h.map .int) xs → Vals xs us → NestedAll s.heap (h.map .num) us
  | [], xs, us, r, v => by
    cases (show xs = [] from r)
    cases v
    exact .nil
  | n :: h, _, us, ⟨x, r, e, h1, h2⟩, v => by
    subst e
    cases (show x = V.int n from h1)
    cases v with
    | cons v1 v2 =>
      obtain ⟨t, rfl⟩ := v1
      exact .cons (.int n t) (nums_key I h2 v2)
theorem row_key (I : Inv X pins σ H s) {h : List Int} {v : V} {u : Value} (r : Rep H (dRow h) v) (rv : RelV v u) : NestedIs s.heap (keyR h) u := by
  obtain ⟨a, xs, hv, ha, hr⟩ := r
  subst hv
  cases rv
  obtain ⟨its, r2, ⟨o, ho, hc, n, hd⟩, _⟩ := I.tuple (st_of ha)
  exact .tup ho hc hd (by simpa using nums_key I hr r2)
theorem rows_key (I : Inv X pins σ H s) : ∀ {hs : List (List Int)} {xs : List V} {us : List Value}, Reps H (hs.map dRow) xs → Vals xs us → NestedAll s.heap (hs.map keyR) us
  | [], xs, us, r, v => by
    cases (show xs = [] from r)
    cases v
    exact .nil
  | n :: h, _, us, ⟨x, r, e, h1, h2⟩, v => by
    subst e
    cases v with
    | cons v1 v2 => exact .cons (row_key I h1 v1) (rows_key I h2 v2)
theorem hs_key (I : Inv X pins σ H s) {hs : List (List Int)} {b : Addr} (r : Rep H (dHs hs) (.ref b)) : (nestedKind X.prog X.w).is s.heap (keyH hs) b := by
  obtain ⟨a, xs, hv, ha, hr⟩ := r
  cases hv
  obtain ⟨its, r2, ⟨o, ho, hc, n, hd⟩, _⟩ := I.tuple (st_of ha)
  exact ⟨.tup ho hc hd (by simpa using rows_key I hr r2), depth_keyH hs⟩
theorem kok_key (I : Inv X pins σ H s) {y : KEn} (k : KOk H y) : (nestedKind X.prog X.w).is s.heap y.1 y.2.1 := by
  obtain ⟨hs, e, r⟩ := k
  rw [e]
  exact hs_key I r
theorem fo_at (I : Inv X pins σ H s) {d : Addr} {xs : List KEn} (hd : H d = some (FO X.prog X.w d xs)) (hk : ∀ y ∈ xs, KOk H y) : s.heap.DictOfH (nestedKind X.prog X.w) d xs ∧ xs.length ≤ sizeLine ∧ (d == sysModules) = false := by
  obtain ⟨⟨o, es, ep, h1, h2, h3, h4, h5, h6, h7⟩, _, _⟩ := I.hok d _ hd
  exact ⟨⟨o, es, ep, h1, h2, h3, h4, fun y m => kok_key I (hk y m), h5⟩, h6, h7⟩
theorem fo_ok {P : Program} {w : World} {H : Hp} {h : Heap} {d : Addr} {xs : List KEn} (hm : h.DictOfH (nestedKind P w) d xs) (hl : xs.length ≤ sizeLine) (hd : (d == sysModules) = false) : ObjOk P w H h d (FO P w d xs) := by
  obtain ⟨o, es, ep, h1, h2, h3, h4, _, h5⟩ := hm
  exact ⟨⟨o, es, ep, h1, h2, h3, h4, h5, hl, hd⟩, ⟨o, h1⟩, fun h1' h2' ⟨o, es, ep, q1, q2⟩ st => ⟨o, es, ep, st o q1, q2⟩⟩
end
section
variable {X : Cx} {pos : Pos}
theorem pe_fnew : PE X (.Dict [] [] pos) (fun _ H Q => ∀ d, H d = none → Q (.ref d) (upd H d (FO X.prog X.w d []))) := ⟨fun pins s σ H Q I h =>
  wpAny_Dict_empty ⟨.ref s.heap.objs.size, _, I.laid (a := s.heap.objs.size) (o := FO X.prog X.w s.heap.objs.size []) (t' := s.toks) (fun _ _ q => Heap.get?_push_of_some _ q) (Nat.le_refl _)
    (fo_ok ⟨_, #[], 0, Heap.get?_push_size _ rfl, ⟨rfl, rfl, rfl⟩, rfl, rfl, (fun _ m => nomatch m), List.nodup_nil⟩ (Nat.zero_le _) (beq_eq_false_iff_ne.mpr (Ne.symm (Nat.ne_of_lt I.big)))), rfl, h _ (I.hok.fresh (Nat.le_refl _))⟩⟩
/-- d.get(k, x) -/
def tFGet (P : Program) (w : World) (td ty tx : TE) : TE := fun σ H Q => td σ H fun x H1 => ∃ d xs, x = .ref d ∧ H1 d = some (FO P w d xs) ∧ (∀ y ∈ xs, KOk H1 y) ∧ ty σ H1 fun y H2 => tx σ H2 fun z H3 => ∃ hs b, y = .ref b ∧ Rep H3 (dHs hs) (.ref b) ∧ H3 d = some (FO P w d xs) ∧ (∀ y ∈ xs, KOk H3 y) ∧
  (∀ p v, atKey xs (keyH hs) = some p → RelV v p.2 → Q v H3) ∧ (∀ p, atKey xs (keyH hs) = some p → ∃ v, RelV v p.2) ∧ (atKey xs (keyH hs) = none → Q z H3)
theorem pe_fget {o e f : Expr} {apos cpos : Pos} {td ty tx : TE} (hu : X.A.units + 64 < cLine) (ho : PE X o td) (he : PE X e ty) (hf : PE X f tx) (m : M2 X o "get" apos e f cpos) : PE X (.Call (.Attribute o "get" apos) [e, f] [] cpos) (tFGet X.prog X.w td ty tx) := by
  refine ⟨fun pins s σ H Q I h => ?_⟩
  refine wpAny_Call_method m.base m.few m.line PySem.F.plainAttrs_dict PySem.F.slot_dict_get PySem.F.type_dict_get (thn (ho.run pins s σ H _ I h) fun u s1 ⟨x, H1, I1, rx, d, xs, ex, hd, hk, q1⟩ => ?_)
  subst ex
  obtain rfl : u = Value.ref d := rx
  obtain ⟨hm, _, _⟩ := fo_at I1 hd hk
  refine ⟨hm.typeIs, fun b q => ?_, ?_⟩
  · cases q
    obtain ⟨ob, _, _, h1, h2, _⟩ := hm
    exact ⟨ob, h1, h2.2.1⟩
  rw [m.trees]
  refine Calls.callWith_builtin rfl (Calls.evalArgs_plain (Calls.spliced_cons (thn (he.run pins s1 σ H1 _ I1 q1) fun iv s2 ⟨y, H2, I2, ry, q2⟩ =>
    Calls.spliced_cons (thn (hf.run pins s2 σ H2 _ I2 q2) fun fv s3 ⟨z, H3, I3, rz, hs, b, ey, rb, hd3, hk3, q3, q4, q5⟩ => Calls.spliced_nil ?_))))
  subst ey
  obtain rfl : iv = Value.ref b := ry
  obtain ⟨hm3, _, hsy⟩ := fo_at I3 hd3 hk3
  refine getOr_keyed (knd := nestedKind X.prog X.w) (by show X.A.in1.units + 8 < cLine; have : X.A.in1.units ≤ X.A.units + 1 := Nat.le_refl _; omega) (hs_key I3 rb) hsy ⟨xs, hm3, rfl⟩ ?_
  rw [valueAt_pairsH]
  cases q : atKey xs (keyH hs) with
  | none => exact ⟨z, H3, I3.tok _, rz, q5 q⟩
  | some p =>
    obtain ⟨v, rv⟩ := q4 p q
    exact ⟨v, H3, I3.tok _, rv, q3 p v q rv⟩
/-- d[k] = v -/
def rFSet (P : Program) (w : World) : TSet := fun o i v H Q => ∃ d xs hs b c, o = .ref d ∧ i = .ref b ∧ v = .ref c ∧ H d = some (FO P w d xs) ∧ (∀ y ∈ xs, KOk H y) ∧ Rep H (dHs hs) (.ref b) ∧ xs.length < sizeLine ∧ Q (upd H d (FO P w d (storedH xs (keyH hs) b (.ref c))))
theorem set_fo (hu : X.A.units + 64 < cLine) : PSet X (rFSet X.prog X.w) := by
  intro pins s σ H o i v ov iv u Q I ro ri rv h
  obtain ⟨d, xs, hs, b, c, eo, ei, ev, hd, hk, rb, hl, q⟩ := h
  subst eo ei ev
  cases (show ov = Value.ref d from ro)
  cases (show iv = Value.ref b from ri)
  cases (show u = Value.ref c from rv)
  obtain ⟨hm, _, hsy⟩ := fo_at I hd hk
  refine wpAny_setItem_heap (knd := nestedKind X.prog X.w) (by show X.A.in1.units + 8 < cLine; have : X.A.in1.units ≤ X.A.units + 1 := Nat.le_refl _; omega) (hs_key I rb) hm (fun h' hm' hs' => ?_) (Nat.le_of_lt hl)
  have hl' : (storedH xs (keyH hs) b (Value.ref c)).length ≤ sizeLine := by
    unfold storedH
    split
    · rw [List.length_map]; exact Nat.le_of_lt hl
    · rw [List.length_append]; exact hl
  exact ⟨_, d_write I (by rw [hd]; exact True.intro) hs' (let ⟨o, _, _, h1, _⟩ := hm'; ⟨o, h1⟩) (fo_ok hm' hl' hsy), q⟩
/-- list(d) -/
theorem cr_listF (hc : X.calm = true) : CallR X (.type "list") (fun vs H Q => ∃ d xs, vs = [.ref d] ∧ H d = some (FO X.prog X.w d xs) ∧ (∀ y ∈ xs, KOk H y) ∧ ∀ p, H p = none → Q (.ref p) (upd H p (.lst (xs.map fun y => V.ref y.2.1)))) := by
  intro pins s σ H vs us Q I r h
  obtain ⟨d, xs, rfl, hd, hk, q⟩ := h
  rw [Vals.ref1 r]
  obtain ⟨hm, hl, hsy⟩ := fo_at I hd hk
  obtain ⟨es, ep, hr, hs, he⟩ := hm.raw
  refine PySem.W.kdl_call (KdlSrc.rawDict (es := es) (ep := ep) hsy) (I.ok.hd hc) hr (by rw [hs]; exact hl) fun h' tk acc c' hk' hD hacc => ?_
  have hv : acc.toList = xs.map fun y => Value.ref y.2.1 := by
    refine List.ext_getElem? fun j => ?_
    by_cases hj : j < es.size
    · obtain ⟨y, e1, e2, _, _⟩ := he j hj
      have hja : j < acc.size := by rw [hacc.1]; exact hj
      obtain ⟨_, e3⟩ := hacc.2 j acc[j] (by rw [Array.getElem?_eq_getElem hja])
      rw [Array.getElem?_toList, Array.getElem?_eq_getElem hja, e3, List.getElem?_map, e1, e2]
      rfl
    · rw [List.getElem?_eq_none (by rw [Array.length_toList, hacc.1]; omega), List.getElem?_eq_none (by rw [List.length_map]; omega)]
  have hvals : ∀ ys : List KEn, Vals (ys.map fun y => V.ref y.2.1) (ys.map fun y => Value.ref y.2.1) := fun ys => by
    induction ys with
    | nil => exact .nil
    | cons y ys ih => exact .cons rfl ih
  exact ⟨.ref s.heap.objs.size, upd H s.heap.objs.size (.lst (xs.map fun y => V.ref y.2.1)), I.laid (t' := tk) hk' (Nat.le_refl _)
    (show ObjOk X.prog X.w _ _ _ (.lst (xs.map fun y => V.ref y.2.1)) from ⟨by rw [List.length_map]; exact hl, acc.toList, c', by rw [hv]; exact hvals xs, by rw [Array.toArray_toList]; exact hD⟩), rfl, q _ (I.hok.fresh (Nat.le_refl _))⟩
/-- k in d -/
def rFIn (P : Program) (w : World) : R2 := fun x y H Q => ∃ d xs hs b, x = .ref b ∧ y = .ref d ∧ H d = some (FO P w d xs) ∧ (∀ y ∈ xs, KOk H y) ∧ Rep H (dHs hs) (.ref b) ∧ Q (.bl (atKey xs (keyH hs)).isSome) H
theorem op_inF (hu : X.A.units + 64 < cLine) : OpR X (compareOp .In) (rFIn X.prog X.w) := by
  intro pins s σ H x y v u Q I rx ry h
  obtain ⟨d, xs, hs, b, rfl, rfl, hd, hk, rb, q⟩ := h
  cases (show v = Value.ref b from rx)
  cases (show u = Value.ref d from ry)
  obtain ⟨hm, _, hsy⟩ := fo_at I hd hk
  refine in_keyed (knd := nestedKind X.prog X.w) (by show X.A.in1.units + 8 < cLine; have : X.A.in1.units ≤ X.A.units + 1 := Nat.le_refl _; omega) (hs_key I rb) hsy ⟨xs, hm, rfl⟩ ?_
  rw [valueAt_pairsH, Option.isSome_map]
  exact ⟨.bl _, H, I.tok _, rfl, q⟩
end
end DL
end Part_DL17
section Part_DL18
set_option Elab.async false
set_option linter.all false
set_option maxRecDepth 100000
set_option maxHeartbeats 2000000
set_option autoImplicit false
/-! sorted of a tuple of whole numbers -/
namespace SrtO
open PySem PyProof.Rows Srt
section
variable {prog : Program} {w : World} {A : Around} {E : Value → Shared → Prop} {s : Shared}
theorem collect_tp {l : Addr} {vs : List Value} {Q : List Value → Shared → Prop} (hl : IsTup s.heap l vs.toArray) (hsz : vs.length ≤ sizeLine)
    (h : Q vs { s with heap := (s.heap.push (seqObj "list" #[] 0)).update s.heap.objs.size (Obj.mapSeq (· ++ vs.toArray)) }) :
    wpAny (model prog w) A (collect (.ref l)) Q E s := by
  obtain ⟨o, ho, hc, n, hd⟩ := id hl
  unfold collect
  refine wpAny_bind (wpAny_runValue (codeAny_builtin entry_proto_collect' ?_))
  show wpAny _ _ (do again (.builtin "list.__iadd__" ⟨[← newList [], .ref l], []⟩)) _ _ s
  refine wpAny_bind (wpAny_newList (wpAny_pure ⟨Code.quiet_builtin _ (by decide +kernel), codeAny_builtin entry_list_iadd' ?_⟩))
  show wpAny _ _ (Builtin.List.listExtendWith (.ref s.heap.objs.size) (.ref l) (.ref s.heap.objs.size)) _ _ { s with heap := s.heap.push (seqObj "list" #[] 0) }
  unfold Builtin.List.listExtendWith
  have ho' : (s.heap.push (seqObj "list" #[] 0)).get? l = some o := Heap.get?_push_of_some _ ho
  refine wpAny_bind (wpAny_typeOf (T := "tuple") ⟨o, ho', hc⟩ ?_)
  have ht : (Value.type "tuple" == Value.type "tuple") = true := by rfl
  rw [if_pos (by rw [ht]; simp)]
  refine wpAny_bind (listItems_at ho' hd ?_)
  refine wpAny_bind (listItems_at (xs := #[]) (n := 0) (Heap.get?_push_size _ rfl) rfl ?_)
  rw [if_neg (by simp)]
  refine wpAny_bind (listUpdate_at (xs := #[]) (n := 0) (Heap.get?_push_size _ rfl) rfl ?_ (Nat.zero_le _) (by show (#[] ++ vs.toArray).size ≤ sizeLine + 1; simp only [Array.size_append, List.size_toArray, List.length_nil]; omega))
  refine wpAny_pure ?_
  show wpAny (model prog w) A (do
      let ob ← load s.heap.objs.size
      match ob.data with
      | .seq xs _ => pure xs.toList
      | _ => unsupported "internal:collect") Q E { s with heap := (s.heap.push (seqObj "list" #[] 0)).update s.heap.objs.size (Obj.mapSeq (· ++ vs.toArray)) }
  refine wpAny_bind (wpAny_load (get?_update_seq (Heap.get?_push_size _ rfl) _) ?_)
  show wpAny _ _ (pure ((#[] : Array Value) ++ vs.toArray).toList) Q E _
  rw [show ((#[] : Array Value) ++ vs.toArray).toList = vs by simp]
  exact wpAny_pure h
theorem sorted_tp {l : Addr} {vs : List Value} {ltv : Value → Value → Bool} {Q : Value → Shared → Prop} (O : Swo ltv) (hl : IsTup s.heap l vs.toArray) (hz : vs.length ≤ sizeLine)
    (hS : 2 ≤ vs.length → ∀ (h₁ : Heap) (a : Addr), h₁.get? a = some (seqObj "list" vs.toArray 0) → (∀ b o, s.heap.get? b = some o → b ≠ a ∧ h₁.get? b = some o) → SortableO prog w A.in1.in1 { s with heap := h₁ } a vs ltv)
    (h : ∀ out : List Value, Srtd ltv out → Stb ltv out vs → Q (.ref (s.heap.objs.size + 1)) { s with heap := sortedAll s.heap vs out.toArray }) :
    wpAny (model prog w) A (call (.builtin "sorted") [.ref l]) Q E s := by
  refine Calls.call_function_entry kind_sorted plain_sorted entry_sorted (args_sorted1 _) ?_
  unfold Builtin.«sorted»
  refine wpAny_bind (m := checkCount "sorted" 1 1 _) (wpAny_pure ?_)
  refine wpAny_bind (collect_tp hl hz ?_)
  refine wpAny_bind (wpAny_newList ?_ hz)
  have hsz : ((s.heap.push (seqObj "list" #[] 0)).update s.heap.objs.size (Obj.mapSeq (· ++ vs.toArray))).objs.size = s.heap.objs.size + 1 := by
    rw [Heap.size_update, size_push']
  have hoL : (((s.heap.push (seqObj "list" #[] 0)).update s.heap.objs.size (Obj.mapSeq (· ++ vs.toArray))).push (seqObj "list" vs.toArray 0)).get? (s.heap.objs.size + 1) = some (seqObj "list" vs.toArray 0) := by
    rw [← hsz]; exact Heap.get?_push_size _ rfl
  have keep : ∀ b o, s.heap.get? b = some o → b ≠ s.heap.objs.size + 1 ∧ (((s.heap.push (seqObj "list" #[] 0)).update s.heap.objs.size (Obj.mapSeq (· ++ vs.toArray))).push (seqObj "list" vs.toArray 0)).get? b = some o := fun b o q => by
    have hlt : b < s.heap.objs.size := Heap.lt_size q
    refine ⟨Nat.ne_of_lt (Nat.lt_succ_of_lt hlt), Heap.get?_push_of_some _ ?_⟩
    rw [Heap.get?_update_ne _ _ _ _ (Nat.ne_of_lt hlt)]
    exact Heap.get?_push_of_some _ q
  show wpAny _ _ _ _ _ { s with heap := ((s.heap.push (seqObj "list" #[] 0)).update s.heap.objs.size (Obj.mapSeq (· ++ vs.toArray))).push (seqObj "list" vs.toArray 0) }
  rw [hsz]
  refine wpAny_bind (wpAny_holding (wpAny_call_entry slot_list_sort ⟨_, hoL, rfl⟩ entry_list_sort (list_sort_ord O hoL hz (fun h2 => hS h2 _ _ hoL keep) fun out hs hb => ⟨_, rfl, ?_⟩) (args_list_sort _)))
  exact wpAny_pure ⟨_, rfl, h out hs hb⟩
end
end SrtO
namespace DL
open PySem PySem.Spec PyProof.Rows L2 Evl
def rSortedT (K : PySem.W.Frag) : List V → Hp → VK → Prop := fun vs H Q => ∃ (a : Addr) (ns : List Int), vs = [V.ref a] ∧ SqT K H a (ns.map V.int) ∧
  ∀ (ns' : List Int) (p : Addr), ns'.Perm ns → ns'.Pairwise (· ≤ ·) → H p = none → Q (.ref p) (upd H p (.lst (ns'.map V.int)))
theorem cr_sortedT {X : Cx} : CallR X (.builtin "sorted") (rSortedT X.K) := by
  intro pins s σ H vs us Q I r h
  obtain ⟨a, ns, rfl, hs, q⟩ := h
  obtain ⟨its, rv, hl, hz⟩ := I.tuple hs
  rw [Vals.ref1 r]
  have hi := rv.ints
  refine SrtO.sorted_tp SrtO.swo_int hl (by rw [← rv.length]; exact hz) (fun h2 h₁ a' _ _ => SrtO.ints_sortable hi h2) fun out h1 h2 => ?_
  obtain ⟨k1, k2, k3⟩ := SrtO.ints_out hi h1 h2
  obtain ⟨ep, he'⟩ := PyProof.Rows.sortedAll_at s.heap its out.toArray
  have hlen : ((out.map SrtO.iv).map V.int).length ≤ sizeLine := by
    rw [List.length_map, k2.length_eq]
    rw [List.length_map] at hz
    exact hz
  exact ⟨.ref _, upd H (s.heap.objs.size + 1) (.lst ((out.map SrtO.iv).map V.int)), I.laid (t' := s.toks) (fun _ _ => PyProof.Rows.sortedAll_old) (Nat.le_succ _) ⟨hlen, out, ep, vals_of_ints k1, he'⟩, rfl, q _ _ k2 k3 (I.hok.fresh (Nat.le_succ _))⟩
def sortTG : List D → Option D
  | [.tup ds] => (intsOf ds).map fun ns => D.lst ((isort ns).map D.int)
  | _ => none
theorem rc_sortT {K : PySem.W.Frag} : RC (rSortedT K) sortTG := fun S ds d vs H Q hS hr hg hq => by
  unfold sortTG at hg
  split at hg
  · rename_i l
    cases q : intsOf l with
    | none => simp [q] at hg
    | some ns =>
      simp only [q, Option.map_some, Option.some.injEq] at hg
      subst hg
      obtain ⟨x, t, hv, ⟨a, xs, hx, ha, hxs⟩, ht⟩ := hr
      cases (show t = [] from ht)
      subst hv hx
      rw [intsOf_some q] at hxs
      cases reps_ints hxs
      refine ⟨a, ns, rfl, st_of (hid_sub a _ ha), fun ns' p hp hu hn => ?_⟩
      have e : ns' = isort ns := up_uniq (hp.trans (isort_perm ns).symm) hu (isort_up ns)
      subst e
      exact hq _ _ (Ex.new hn) (new_lst hS hn (ints_reps _))
  · cases hg
end DL
end Part_DL18
section Part_PT1
set_option Elab.async false
set_option linter.all false
set_option maxRecDepth 100000
set_option maxHeartbeats 2000000
set_option autoImplicit false
namespace DL
open PySem PySem.Spec PyProof.Rows L2 Evl

/-! ## the text: where the defs stand, their names -/
def topS (i : Nat) : Stmt := PySem.Challenge.pw_lastholders_k04_whole_ends.main.body.getD i (.Pass ⟨0, 0, 0, 0⟩)
abbrev s_is_integer : Stmt := topS 1
theorem sc_is_integer : FnScope ["value"] ["value"] (defScope s_is_integer) := ⟨rfl, rfl, rfl, by decide +kernel, rfl, by decide +kernel, by decide +kernel⟩
abbrev s_is_in : Stmt := topS 2
theorem sc_is_in : FnScope ["value", "least", "most"] ["value", "least", "most"] (defScope s_is_in) := ⟨rfl, rfl, rfl, by decide +kernel, rfl, by decide +kernel, by decide +kernel⟩
abbrev s_is_list : Stmt := topS 3
theorem sc_is_list : FnScope ["value", "least", "most"] ["value", "least", "most"] (defScope s_is_list) := ⟨rfl, rfl, rfl, by decide +kernel, rfl, by decide +kernel, by decide +kernel⟩
abbrev s_is_hand : Stmt := topS 15
theorem sc_is_hand : FnScope ["value", "thing"] ["value"] (defScope s_is_hand) := ⟨rfl, rfl, rfl, by decide +kernel, rfl, by decide +kernel, by decide +kernel⟩
abbrev s_need_hands : Stmt := topS 16
theorem sc_need_hands : FnScope ["hands", "index", "hand"] ["hands"] (defScope s_need_hands) := ⟨rfl, rfl, rfl, by decide +kernel, rfl, by decide +kernel, by decide +kernel⟩
abbrev s_need_two : Stmt := topS 17
theorem sc_need_two : FnScope ["one", "other"] ["one", "other"] (defScope s_need_two) := ⟨rfl, rfl, rfl, by decide +kernel, rfl, by decide +kernel, by decide +kernel⟩
abbrev s_need_thing : Stmt := topS 18
theorem sc_need_thing : FnScope ["hands", "thing"] ["hands", "thing"] (defScope s_need_thing) := ⟨rfl, rfl, rfl, by decide +kernel, rfl, by decide +kernel, by decide +kernel⟩
abbrev s_things_in : Stmt := topS 19
theorem sc_things_in : FnScope ["hands", "hand", "thing"] ["hands"] (defScope s_things_in) := ⟨rfl, rfl, rfl, by decide +kernel, rfl, by decide +kernel, by decide +kernel⟩
abbrev s_holders_in : Stmt := topS 20
theorem sc_holders_in : FnScope ["hands", "thing", "person", "hand"] ["hands", "thing"] (defScope s_holders_in) := ⟨rfl, rfl, rfl, by decide +kernel, rfl, by decide +kernel, by decide +kernel⟩
abbrev s_spare_in : Stmt := topS 21
theorem sc_spare_in : FnScope ["hands", "person", "thing"] ["hands", "person"] (defScope s_spare_in) := ⟨rfl, rfl, rfl, by decide +kernel, rfl, by decide +kernel, by decide +kernel⟩
abbrev s_pairs_in : Stmt := topS 22
theorem sc_pairs_in : FnScope ["hands", "found", "one", "other", "thing"] ["hands"] (defScope s_pairs_in) := ⟨rfl, rfl, rfl, by decide +kernel, rfl, by decide +kernel, by decide +kernel⟩
abbrev s_end_in : Stmt := topS 23
theorem sc_end_in : FnScope ["hands"] ["hands"] (defScope s_end_in) := ⟨rfl, rfl, rfl, by decide +kernel, rfl, by decide +kernel, by decide +kernel⟩
abbrev s_call_in : Stmt := topS 25
theorem sc_call_in : FnScope ["hands", "person", "away", "left", "thing"] ["hands", "person"] (defScope s_call_in) := ⟨rfl, rfl, rfl, by decide +kernel, rfl, by decide +kernel, by decide +kernel⟩
abbrev s_story_in : Stmt := topS 26
theorem sc_story_in : FnScope ["hands", "calls", "found", "person"] ["hands", "calls"] (defScope s_story_in) := ⟨rfl, rfl, rfl, by decide +kernel, rfl, by decide +kernel, by decide +kernel⟩
abbrev s_has_ring : Stmt := topS 28
theorem sc_has_ring : FnScope ["steps", "left", "free", "pair", "person"] ["steps"] (defScope s_has_ring) := ⟨rfl, rfl, rfl, by decide +kernel, rfl, by decide +kernel, by decide +kernel⟩
abbrev s_steps_of : Stmt := topS 29
theorem sc_steps_of : FnScope ["hands", "keeper", "found", "thing", "person", "other"] ["hands", "keeper"] (defScope s_steps_of) := ⟨rfl, rfl, rfl, by decide +kernel, rfl, by decide +kernel, by decide +kernel⟩
abbrev s_keepers_in : Stmt := topS 30
theorem sc_keepers_in : FnScope ["hands", "found", "thing", "later", "keeper", "person", "longer"] ["hands"] (defScope s_keepers_in) := ⟨rfl, rfl, rfl, by decide +kernel, rfl, by decide +kernel, by decide +kernel⟩
abbrev s_end_by : Stmt := topS 31
theorem sc_end_by : FnScope ["hands", "keeper", "found", "person", "thing"] ["hands", "keeper"] (defScope s_end_by) := ⟨rfl, rfl, rfl, by decide +kernel, rfl, by decide +kernel, by decide +kernel⟩
abbrev s_ends_in : Stmt := topS 32
theorem sc_ends_in : FnScope ["hands", "keeper"] ["hands"] (defScope s_ends_in) := ⟨rfl, rfl, rfl, by decide +kernel, rfl, by decide +kernel, by decide +kernel⟩
abbrev s_ends : Stmt := topS 33
theorem sc_ends : FnScope ["hands"] ["hands"] (defScope s_ends) := ⟨rfl, rfl, rfl, by decide +kernel, rfl, by decide +kernel, by decide +kernel⟩
abbrev s_count_ends : Stmt := topS 34
theorem sc_count_ends : FnScope ["hands"] ["hands"] (defScope s_count_ends) := ⟨rfl, rfl, rfl, by decide +kernel, rfl, by decide +kernel, by decide +kernel⟩
abbrev s_need_end : Stmt := topS 35
theorem sc_need_end : FnScope ["hands", "end"] ["hands", "end"] (defScope s_need_end) := ⟨rfl, rfl, rfl, by decide +kernel, rfl, by decide +kernel, by decide +kernel⟩
abbrev s_fits_end : Stmt := topS 36
theorem sc_fits_end : FnScope ["hands", "end", "keeper", "person", "thing"] ["hands", "end"] (defScope s_fits_end) := ⟨rfl, rfl, rfl, by decide +kernel, rfl, by decide +kernel, by decide +kernel⟩
abbrev s_can_end : Stmt := topS 37
theorem sc_can_end : FnScope ["hands", "end"] ["hands", "end"] (defScope s_can_end) := ⟨rfl, rfl, rfl, by decide +kernel, rfl, by decide +kernel, by decide +kernel⟩
abbrev s_keepers : Stmt := topS 38
theorem sc_keepers : FnScope ["hands", "end", "found", "thing"] ["hands", "end"] (defScope s_keepers) := ⟨rfl, rfl, rfl, by decide +kernel, rfl, by decide +kernel, by decide +kernel⟩
abbrev s_need_order : Stmt := topS 39
theorem sc_need_order : FnScope ["hands", "order", "people", "person"] ["hands", "order"] (defScope s_need_order) := ⟨rfl, rfl, rfl, by decide +kernel, rfl, by decide +kernel, by decide +kernel⟩
abbrev s_end_of : Stmt := topS 40
theorem sc_end_of : FnScope ["hands", "order"] ["hands", "order"] (defScope s_end_of) := ⟨rfl, rfl, rfl, by decide +kernel, rfl, by decide +kernel, by decide +kernel⟩
abbrev s_least_end : Stmt := topS 41
theorem sc_least_end : FnScope ["hands"] ["hands"] (defScope s_least_end) := ⟨rfl, rfl, rfl, by decide +kernel, rfl, by decide +kernel, by decide +kernel⟩
abbrev s_greatest_end : Stmt := topS 42
theorem sc_greatest_end : FnScope ["hands"] ["hands"] (defScope s_greatest_end) := ⟨rfl, rfl, rfl, by decide +kernel, rfl, by decide +kernel, by decide +kernel⟩
abbrev s_can_keep : Stmt := topS 43
theorem sc_can_keep : FnScope ["hands", "thing", "keeper"] ["hands", "thing"] (defScope s_can_keep) := ⟨rfl, rfl, rfl, by decide +kernel, rfl, by decide +kernel, by decide +kernel⟩
abbrev s_ahead : Stmt := topS 44
theorem sc_ahead : FnScope ["hands", "end", "keeper", "person", "thing"] ["hands", "end"] (defScope s_ahead) := ⟨rfl, rfl, rfl, by decide +kernel, rfl, by decide +kernel, by decide +kernel⟩
abbrev s__law_taken : Stmt := topS 46
theorem sc__law_taken : FnScope ["_law_row", "_law_many", "_law_found", "_law_cell"] ["_law_row", "_law_many"] (defScope s__law_taken) := ⟨rfl, rfl, rfl, by decide +kernel, rfl, by decide +kernel, by decide +kernel⟩
abbrev s__law_pick : Stmt := topS 47
theorem sc__law_pick : FnScope ["_law_row", "_law_kinds"] ["_law_row", "_law_kinds"] (defScope s__law_pick) := ⟨rfl, rfl, rfl, by decide +kernel, rfl, by decide +kernel, by decide +kernel⟩
abbrev s__law_alike : Stmt := topS 48
theorem sc__law_alike : FnScope ["_law_found", "_law_due", "_law_k"] ["_law_found", "_law_due"] (defScope s__law_alike) := ⟨rfl, rfl, rfl, by decide +kernel, rfl, by decide +kernel, by decide +kernel⟩
abbrev s__law_hands : Stmt := topS 49
theorem sc__law_hands : FnScope ["_law_row", "_law_people", "_law_kinds", "_law_many", "_law_size", "_law_found", "_law_rare", "_law_person", "_law_thing"] ["_law_row", "_law_people", "_law_kinds"] (defScope s__law_hands) := ⟨rfl, rfl, rfl, by decide +kernel, rfl, by decide +kernel, by decide +kernel⟩
abbrev s__law_holders : Stmt := topS 50
theorem sc__law_holders : FnScope ["_law_hands_here", "_law_thing", "_law_person"] ["_law_hands_here", "_law_thing"] (defScope s__law_holders) := ⟨rfl, rfl, rfl, by decide +kernel, rfl, by decide +kernel, by decide +kernel⟩
abbrev s__law_things : Stmt := topS 51
theorem sc__law_things : FnScope ["_law_hands_here", "_law_found", "_law_hand", "_law_thing"] ["_law_hands_here"] (defScope s__law_things) := ⟨rfl, rfl, rfl, by decide +kernel, rfl, by decide +kernel, by decide +kernel⟩
abbrev s__law_call : Stmt := topS 52
theorem sc__law_call : FnScope ["_law_hands_here", "_law_person", "_law_kept", "_law_thing"] ["_law_hands_here", "_law_person"] (defScope s__law_call) := ⟨rfl, rfl, rfl, by decide +kernel, rfl, by decide +kernel, by decide +kernel⟩
abbrev s__law_done : Stmt := topS 53
theorem sc__law_done : FnScope ["_law_hands_here", "_law_calls", "_law_person"] ["_law_hands_here", "_law_calls"] (defScope s__law_done) := ⟨rfl, rfl, rfl, by decide +kernel, rfl, by decide +kernel, by decide +kernel⟩
abbrev s__law_orders : Stmt := topS 54
theorem sc__law_orders : FnScope ["_law_many", "_law_found", "_law_turn", "_law_longer", "_law_piece", "_law_person"] ["_law_many"] (defScope s__law_orders) := ⟨rfl, rfl, rfl, by decide +kernel, rfl, by decide +kernel, by decide +kernel⟩
abbrev s__law_told : Stmt := topS 55
theorem sc__law_told : FnScope ["_law_work", "e"] ["_law_work"] (defScope s__law_told) := ⟨rfl, rfl, rfl, by decide +kernel, rfl, by decide +kernel, by decide +kernel⟩
abbrev s_law : Stmt := topS 56
theorem sc_law : FnScope ["_law_script", "_law_row", "_law_hands_here", "_law_orders_here", "_law_found", "_law_order", "_law_there", "_law_due", "_law_thing", "_law_away", "_law_other", "_law_end", "_law_told_here", "_law_steps", "_law_keeper", "_law_person"] ["_law_script"] (defScope s_law) := ⟨rfl, rfl, rfl, by decide +kernel, rfl, by decide +kernel, by decide +kernel⟩
/-- what the top has written -/
structure Txt (K : PySem.W.Frag) (mg : Str → Option Value) : Prop where
  z_len : mg "len" = none
  z_any : mg "any" = none
  z_all : mg "all" = none
  z_sorted : mg "sorted" = none
  z_tuple : mg "tuple" = none
  z_list : mg "list" = none
  z_int : mg "int" = none
  z_bool : mg "bool" = none
  z_str : mg "str" = none
  z_set : mg "set" = none
  z_range : mg "range" = none
  z_enumerate : mg "enumerate" = none
  z_isinstance : mg "isinstance" = none
  g_people : ∃ u, mg "MOST_PEOPLE" = some u ∧ RelV (.int 7) u
  g_things : ∃ u, mg "MOST_THINGS" = some u ∧ RelV (.int 8) u
  d_is_integer : DefAt K mg "is_integer" s_is_integer ["value"]
  d_is_in : DefAt K mg "is_in" s_is_in ["value", "least", "most"]
  d_is_list : DefAt K mg "is_list" s_is_list ["value", "least", "most"]
  d_is_hand : DefAt K mg "is_hand" s_is_hand ["value"]
  d_need_hands : DefAt K mg "need_hands" s_need_hands ["hands"]
  d_need_two : DefAt K mg "need_two" s_need_two ["one", "other"]
  d_need_thing : DefAt K mg "need_thing" s_need_thing ["hands", "thing"]
  d_things_in : DefAt K mg "things_in" s_things_in ["hands"]
  d_holders_in : DefAt K mg "holders_in" s_holders_in ["hands", "thing"]
  d_spare_in : DefAt K mg "spare_in" s_spare_in ["hands", "person"]
  d_pairs_in : DefAt K mg "pairs_in" s_pairs_in ["hands"]
  d_end_in : DefAt K mg "end_in" s_end_in ["hands"]
  d_call_in : DefAt K mg "call_in" s_call_in ["hands", "person"]
  d_story_in : DefAt K mg "story_in" s_story_in ["hands", "calls"]
  d_has_ring : DefAt K mg "has_ring" s_has_ring ["steps"]
  d_steps_of : DefAt K mg "steps_of" s_steps_of ["hands", "keeper"]
  d_keepers_in : DefAt K mg "keepers_in" s_keepers_in ["hands"]
  d_end_by : DefAt K mg "end_by" s_end_by ["hands", "keeper"]
  d_ends_in : DefAt K mg "ends_in" s_ends_in ["hands"]
  d_ends : DefAt K mg "ends" s_ends ["hands"]
  d_count_ends : DefAt K mg "count_ends" s_count_ends ["hands"]
  d_need_end : DefAt K mg "need_end" s_need_end ["hands", "end"]
  d_fits_end : DefAt K mg "fits_end" s_fits_end ["hands", "end"]
  d_can_end : DefAt K mg "can_end" s_can_end ["hands", "end"]
  d_keepers : DefAt K mg "keepers" s_keepers ["hands", "end"]
  d_need_order : DefAt K mg "need_order" s_need_order ["hands", "order"]
  d_end_of : DefAt K mg "end_of" s_end_of ["hands", "order"]
  d_least_end : DefAt K mg "least_end" s_least_end ["hands"]
  d_greatest_end : DefAt K mg "greatest_end" s_greatest_end ["hands"]
  d_can_keep : DefAt K mg "can_keep" s_can_keep ["hands", "thing"]
  d_ahead : DefAt K mg "ahead" s_ahead ["hands", "end"]
  d__law_taken : DefAt K mg "_law_taken" s__law_taken ["_law_row", "_law_many"]
  d__law_pick : DefAt K mg "_law_pick" s__law_pick ["_law_row", "_law_kinds"]
  d__law_alike : DefAt K mg "_law_alike" s__law_alike ["_law_found", "_law_due"]
  d__law_hands : DefAt K mg "_law_hands" s__law_hands ["_law_row", "_law_people", "_law_kinds"]
  d__law_holders : DefAt K mg "_law_holders" s__law_holders ["_law_hands_here", "_law_thing"]
  d__law_things : DefAt K mg "_law_things" s__law_things ["_law_hands_here"]
  d__law_call : DefAt K mg "_law_call" s__law_call ["_law_hands_here", "_law_person"]
  d__law_done : DefAt K mg "_law_done" s__law_done ["_law_hands_here", "_law_calls"]
  d__law_orders : DefAt K mg "_law_orders" s__law_orders ["_law_many"]
  d__law_told : DefAt K mg "_law_told" s__law_told ["_law_work"]
  d_law : DefAt K mg "law" s_law ["_law_script"]
theorem Txt.e_people {X : Cx} (T : Txt X.K X.mg) {pos : Pos} (hg : Gl X "MOST_PEOPLE") : PE X (.Name "MOST_PEOPLE" pos) (tD (cE (.int 7))) := by
  obtain ⟨u, h1, h2⟩ := T.g_people
  exact de_int (pe_glob hg h1 h2)
theorem Txt.e_things {X : Cx} (T : Txt X.K X.mg) {pos : Pos} (hg : Gl X "MOST_THINGS") : PE X (.Name "MOST_THINGS" pos) (tD (cE (.int 8))) := by
  obtain ⟨u, h1, h2⟩ := T.g_things
  exact de_int (pe_glob hg h1 h2)
end DL
end Part_PT1
section Part_PA1
set_option Elab.async false
set_option linter.all false
set_option maxRecDepth 100000
set_option maxHeartbeats 2000000
set_option autoImplicit false
namespace DL
open PySem PySem.Spec PyProof.Rows L2 Evl
section
variable {P : Program} {w : World} {K : PySem.W.Frag} {mg : Str → Option Value} {base : Heap}
/-! ### is_integer -/
def F_is_integer : ES → Option Out := (retF (blE (andB (asB (isiE "int" (vE 0))) (asB (blE (notB (asB (isiE "bool" (vE 0)))))))))
def G_is_integer : List D → Option D := runF 1 F_is_integer
theorem c_is_integer (T : Txt K mg) : C8.Cal P w K mg base 1 "is_integer" (spD 1 G_is_integer) [] := T.d_is_integer.cal (k := 0) sc_is_integer fun cdv A outer s H E f hr => by
  exact (dss_one (ds_ret (de_and (de_isi (by rfl) T.z_isinstance (de_var (pv 0)) (pe_bltn (by rfl) T.z_int bt_int rfl)) (de_one (de_not (de_isi (by rfl) T.z_isinstance (de_var (pv 0)) (pe_bltn (by rfl) T.z_bool bt_bool rfl)))))))
/-! ### is_in -/
def F_is_in : ES → Option Out := (retF (blE (andB (asB (callE 1 G_is_integer (consE (vE 0) nilE))) (asB (chE leG leG (vE 1) (vE 0) (vE 2))))))
def G_is_in : List D → Option D := runF 3 F_is_in
theorem c_is_in (T : Txt K mg) : C8.Cal P w K mg base 2 "is_in" (spD 3 G_is_in) [] := T.d_is_in.cal (k := 1) sc_is_in fun cdv A outer s H E f hr => by
  exact (dss_one (ds_ret (de_and (de_call (c_is_integer T) hr (by decide) (by rfl) (da_cons (de_var (pv 0)) da_nil)) (de_one (de_chain rd_le rd_le op_le op_le (de_var (pv 1)) (de_var (pv 0)) (de_var (pv 2)))))))
/-! ### is_list -/
def F_is_list : ES → Option Out := (retF (blE (andB (asB (isiE "tuple" (vE 0))) (asB (chE leG leG (vE 1) (bE lenG (consE (vE 0) nilE)) (vE 2))))))
def G_is_list : List D → Option D := runF 3 F_is_list
theorem c_is_list (T : Txt K mg) : C8.Cal P w K mg base 1 "is_list" (spD 3 G_is_list) [] := T.d_is_list.cal (k := 0) sc_is_list fun cdv A outer s H E f hr => by
  exact (dss_one (ds_ret (de_and (de_isi (by rfl) T.z_isinstance (de_var (pv 0)) (pe_bltn (by rfl) T.z_tuple bt_tuple rfl)) (de_one (de_chain rd_le rd_le op_le op_le (de_var (pv 1)) (de_callB rc_len call_len_seq (by rfl) T.z_len bt_len (da_cons (de_var (pv 0)) da_nil)) (de_var (pv 2)))))))
/-! ### is_hand -/
def F_is_hand : ES → Option Out := (seqF (ifF (orB (notB (asB (callE 3 G_is_list (consE (vE 0) (consE (cE (.int 0)) (consE (cE (.int 8)) nilE)))))) (notB (asB (bE allG (consE (lcE (tupE (vE 0)) (.nm 1) tyE (callE 3 G_is_in (consE (vE 1) (consE (cE (.int 0)) (consE (o2 subG (cE (.int 8)) (cE (.int 1))) nilE)))) [1]) nilE))))) (retF (cE (.bl false))) nextF)
  (retF (o2 eqG (bE listG (consE (vE 0) nilE)) (usortE (vE 0)))))
def G_is_hand : List D → Option D := runF 2 F_is_hand
theorem c_is_hand (T : Txt K mg) : C8.Cal P w K mg base 3 "is_hand" (spD 1 G_is_hand) [] := T.d_is_hand.cal (k := 2) sc_is_hand fun cdv A outer s H E f hr => by
  exact (dss_cons (ds_if (PW.pt (dw_or (dt_not (dt_val (de_call (c_is_list T) hr (by decide) (by rfl) (da_cons (de_var (pv 0)) (da_cons (de_int pe_int) (da_cons (Txt.e_things T (by rfl)) da_nil)))))) (dw_or1 (dt_not (dt_val (de_callB rc_all (cr_all rfl) (by rfl) T.z_all bt_all (da_cons (de_lc [("thing", 1)] rfl sc_is_hand.nd (di_tup (de_var (pv 0))) (by kernel_rfl) (fun _ _ _ _ _ => (pg_name (i := 1) sc_is_hand.nd rfl (by first | exact .inl rfl | exact .inr rfl))) gd_nm bt_nil (fun _ _ _ _ _ => (de_call (c_is_in T) hr (by decide) (by rfl) (da_cons (de_var (pv 1)) (da_cons (de_int pe_int) (da_cons (de_op rd_sub op_sub (Txt.e_things T (by rfl)) (de_int pe_int)) da_nil))))) (by decide)) da_nil))))))) (dss_one (ds_ret (de_bl pe_bl))) ds_nil)
    (dss_one (ds_ret (de_cmp rd_eq (op_eqD hr.units) (de_callTy rc_list call_list_of (by rfl) T.z_list bt_list (da_cons (de_var (pv 0)) da_nil)) (de_usort rfl (by rfl) T.z_sorted (by rfl) T.z_set (de_var (pv 0))) (nomark _)))))
/-! ### need_hands -/
def F_need_hands : ES → Option Out := (seqF (ifF (notB (asB (callE 3 G_is_list (consE (vE 0) (consE (cE (.int 1)) (consE (cE (.int 7)) nilE)))))) neverF nextF)
  (forF (enE (consE (vE 0) nilE)) (.pr 1 2) (ifF (notB (asB (callE 1 G_is_hand (consE (vE 2) nilE)))) neverF nextF)))
def G_need_hands : List D → Option D := runF 3 F_need_hands
theorem c_need_hands (T : Txt K mg) : C8.Cal P w K mg base 4 "need_hands" (spD 1 G_need_hands) [] := T.d_need_hands.cal (k := 3) sc_need_hands fun cdv A outer s H E f hr => by
  exact (dss_cons (ds_if (dt_not (dt_val (de_call (c_is_list T) hr (by decide) (by rfl) (da_cons (de_var (pv 0)) (da_cons (de_int pe_int) (da_cons (Txt.e_people T (by rfl)) da_nil)))))) (dss_one ds_never) ds_nil)
    (dss_one (ds_for PassesOwn.never rfl (di_enT (by rfl) T.z_enumerate (da_cons (de_var (pv 0)) da_nil)) (pg_tup rfl (pgs_cons (pg_name (i := 1) sc_need_hands.nd rfl (by first | exact .inl rfl | exact .inr rfl)) (pgs_cons (pg_name (i := 2) sc_need_hands.nd rfl (by first | exact .inl rfl | exact .inr rfl)) pgs_nil))) gd_pr (dss_one (ds_if (dt_not (dt_val (de_call (c_is_hand T) hr (by decide) (by rfl) (da_cons (de_var (pv 2)) da_nil)))) (dss_one ds_never) ds_nil)))))
/-! ### need_two -/
def F_need_two : ES → Option Out := (seqF (dropF (callE 1 G_need_hands (consE (vE 0) nilE)))
  (seqF (dropF (callE 1 G_need_hands (consE (vE 1) nilE)))
  (ifF (asB (o2 neG (bE lenG (consE (vE 0) nilE)) (bE lenG (consE (vE 1) nilE)))) neverF nextF)))
def G_need_two : List D → Option D := runF 2 F_need_two
theorem c_need_two (T : Txt K mg) : C8.Cal P w K mg base 5 "need_two" (spD 2 G_need_two) [] := T.d_need_two.cal (k := 4) sc_need_two fun cdv A outer s H E f hr => by
  exact (dss_cons (ds_drop (de_call (c_need_hands T) hr (by decide) (by rfl) (da_cons (de_var (pv 0)) da_nil)))
    (dss_cons (ds_drop (de_call (c_need_hands T) hr (by decide) (by rfl) (da_cons (de_var (pv 1)) da_nil)))
    (dss_one (ds_if (dt_cmp rd_ne (op_neD hr.units) (de_callB rc_len call_len_seq (by rfl) T.z_len bt_len (da_cons (de_var (pv 0)) da_nil)) (de_callB rc_len call_len_seq (by rfl) T.z_len bt_len (da_cons (de_var (pv 1)) da_nil)) (nomark _)) (dss_one ds_never) ds_nil))))
end
end DL
end Part_PA1
section Part_PA2
set_option Elab.async false
set_option linter.all false
set_option maxRecDepth 100000
set_option maxHeartbeats 2000000
set_option autoImplicit false
namespace DL
open PySem PySem.Spec PyProof.Rows L2 Evl
section
variable {P : Program} {w : World} {K : PySem.W.Frag} {mg : Str → Option Value} {base : Heap}
/-! ### things_in -/
def F_things_in : ES → Option Out := (retF (usortE (lc2E (tupE (vE 0)) (.nm 1) tyE (tupE (vE 1)) (.nm 2) tyE (vE 2) [1, 2] [2])))
def G_things_in : List D → Option D := runF 3 F_things_in
theorem c_things_in (T : Txt K mg) : C8.Cal P w K mg base 1 "things_in" (spD 1 G_things_in) [] := T.d_things_in.cal (k := 0) sc_things_in fun cdv A outer s H E f hr => by
  exact (dss_one (ds_ret (de_usort rfl (by rfl) T.z_sorted (by rfl) T.z_set (de_lc2 [("hand", 1), ("thing", 2)] [2] rfl sc_things_in.nd (di_tup (de_var (pv 0))) (by kernel_rfl) (by decide) (fun _ _ _ _ _ => (pg_name (i := 1) sc_things_in.nd rfl (by first | exact .inl rfl | exact .inr rfl))) gd_nm bt_nil (fun _ _ _ _ _ => (di_tup (de_var (pv 1)))) (fun _ _ _ _ _ => (pg_name (i := 2) sc_things_in.nd rfl (by first | exact .inl rfl | exact .inr rfl))) gd_nm bt_nil (fun _ _ _ _ _ => (de_var (pv 2))) (by decide) (by decide)))))
/-! ### need_thing -/
def F_need_thing : ES → Option Out := (ifF (orB (notB (asB (callE 3 G_is_in (consE (vE 1) (consE (cE (.int 0)) (consE (o2 subG (cE (.int 8)) (cE (.int 1))) nilE)))))) (asB (o2 (inG true) (vE 1) (callE 1 G_things_in (consE (vE 0) nilE))))) neverF nextF)
def G_need_thing : List D → Option D := runF 2 F_need_thing
theorem c_need_thing (T : Txt K mg) : C8.Cal P w K mg base 3 "need_thing" (spD 2 G_need_thing) [] := T.d_need_thing.cal (k := 2) sc_need_thing fun cdv A outer s H E f hr => by
  exact (dss_one (ds_if (PW.pt (dw_or (dt_not (dt_val (de_call (c_is_in T) hr (by decide) (by rfl) (da_cons (de_var (pv 1)) (da_cons (de_int pe_int) (da_cons (de_op rd_sub op_sub (Txt.e_things T (by rfl)) (de_int pe_int)) da_nil)))))) (dw_or1 (dt_cmp (rd_in (neg := true)) op_notIn_seq (de_var (pv 1)) (de_call (c_things_in T) hr (by decide) (by rfl) (da_cons (de_var (pv 0)) da_nil)) (by rfl))))) (dss_one ds_never) ds_nil))
/-! ### holders_in -/
def F_holders_in : ES → Option Out := (retF (lcE (enE (consE (vE 0) nilE)) (.pr 2 3) (asB (o2 (inG false) (vE 1) (vE 3))) (vE 2) [2, 3]))
def G_holders_in : List D → Option D := runF 4 F_holders_in
theorem c_holders_in (T : Txt K mg) : C8.Cal P w K mg base 1 "holders_in" (spD 2 G_holders_in) [] := T.d_holders_in.cal (k := 0) sc_holders_in fun cdv A outer s H E f hr => by
  exact (dss_one (ds_ret (de_lc [("person", 2), ("hand", 3)] rfl sc_holders_in.nd (di_enT (by rfl) T.z_enumerate (da_cons (de_var (pv 0)) da_nil)) (by kernel_rfl) (fun _ _ _ _ _ => (pg_tup rfl (pgs_cons (pg_name (i := 2) sc_holders_in.nd rfl (by first | exact .inl rfl | exact .inr rfl)) (pgs_cons (pg_name (i := 3) sc_holders_in.nd rfl (by first | exact .inl rfl | exact .inr rfl)) pgs_nil)))) gd_pr (bt_one fun _ _ _ _ _ => (dt_cmp (rd_in (neg := false)) op_in_seq (de_var (pv 1)) (de_var (pv 3)) (by rfl))) (fun _ _ _ _ _ => (de_var (pv 2))) (by decide))))
/-! ### spare_in -/
def F_spare_in : ES → Option Out := (retF (lcE (tupE (o2 ixG (vE 0) (vE 1))) (.nm 2) (asB (o2 gtG (bE lenG (consE (callE 2 G_holders_in (consE (vE 0) (consE (vE 2) nilE))) nilE)) (cE (.int 1)))) (vE 2) [2]))
def G_spare_in : List D → Option D := runF 3 F_spare_in
theorem c_spare_in (T : Txt K mg) : C8.Cal P w K mg base 2 "spare_in" (spD 2 G_spare_in) [] := T.d_spare_in.cal (k := 1) sc_spare_in fun cdv A outer s H E f hr => by
  exact (dss_one (ds_ret (de_lc [("thing", 2)] rfl sc_spare_in.nd (di_tup (de_ix (de_var (pv 0)) (de_var (pv 1)))) (by kernel_rfl) (fun _ _ _ _ _ => (pg_name (i := 2) sc_spare_in.nd rfl (by first | exact .inl rfl | exact .inr rfl))) gd_nm (bt_one fun _ _ _ _ _ => (dt_cmp rd_gt op_gt (de_callB rc_len call_len_seq (by rfl) T.z_len bt_len (da_cons (de_call (c_holders_in T) hr (by decide) (by rfl) (da_cons (de_var (pv 0)) (da_cons (de_var (pv 2)) da_nil))) da_nil)) (de_int pe_int) (nomark _))) (fun _ _ _ _ _ => (de_var (pv 2))) (by decide))))
/-! ### pairs_in -/
def F_pairs_in : ES → Option Out := (seqF (ownF 1)
  (seqF (forF (rg1E (consE (bE lenG (consE (vE 0) nilE)) nilE)) (.nm 2) (forF (rg2E (consE (o2 addG (vE 2) (cE (.int 1))) (consE (bE lenG (consE (vE 0) nilE)) nilE))) (.nm 3) (ifF (asB (bE anyG (consE (lcE (tupE (o2 ixG (vE 0) (vE 2))) (.nm 4) tyE (o2 (inG false) (vE 4) (o2 ixG (vE 0) (vE 3))) [4]) nilE))) (appF 1 (tupE' (consE (vE 2) (consE (vE 3) nilE)))) nextF)))
  (retF (vE 1))))
def G_pairs_in : List D → Option D := runF 5 F_pairs_in
theorem c_pairs_in (T : Txt K mg) : C8.Cal P w K mg base 1 "pairs_in" (spD 1 G_pairs_in) [] := T.d_pairs_in.cal (k := 0) sc_pairs_in fun cdv A outer s H E f hr => by
  exact (dss_cons (ds_new (i := 1) sc_pairs_in.nd rfl (by first | exact .inl rfl | exact .inr rfl))
    (dss_cons (ds_for PassesOwn.never rfl (di_rng1 (by rfl) T.z_range (da_cons (de_callB rc_len call_len_seq (by rfl) T.z_len bt_len (da_cons (de_var (pv 0)) da_nil)) da_nil)) (pg_name (i := 2) sc_pairs_in.nd rfl (by first | exact .inl rfl | exact .inr rfl)) gd_nm (dss_one (ds_for PassesOwn.never rfl (di_rng2 (by rfl) T.z_range (da_cons (de_op rd_add op_add (de_var (pv 2)) (de_int pe_int)) (da_cons (de_callB rc_len call_len_seq (by rfl) T.z_len bt_len (da_cons (de_var (pv 0)) da_nil)) da_nil))) (pg_name (i := 3) sc_pairs_in.nd rfl (by first | exact .inl rfl | exact .inr rfl)) gd_nm (dss_one (ds_if (dt_val (de_callB rc_any (cr_any rfl) (by rfl) T.z_any bt_any (da_cons (de_lc [("thing", 4)] rfl sc_pairs_in.nd (di_tup (de_ix (de_var (pv 0)) (de_var (pv 2)))) (by kernel_rfl) (fun _ _ _ _ _ => (pg_name (i := 4) sc_pairs_in.nd rfl (by first | exact .inl rfl | exact .inr rfl))) gd_nm bt_nil (fun _ _ _ _ _ => (de_cmp (rd_in (neg := false)) op_in_seq (de_var (pv 4)) (de_ix (de_var (pv 0)) (de_var (pv 3))) (by rfl))) (by decide)) da_nil))) (dss_one (ds_app (ps_expr (pe_bm PySem.F.plainAttrs_list PySem.F.slot_list_append PySem.F.type_list_append mt_append (pv 1) (pa_cons (de_tup (da_cons (de_var (pv 2)) (da_cons (de_var (pv 3)) da_nil))) pa_nil))))) ds_nil)))))
    (dss_one (ds_ret (de_var (pv 1))))))
/-! ### end_in -/
def F_end_in : ES → Option Out := (retF (o2 eqG (callE 1 G_pairs_in (consE (vE 0) nilE)) (lstE' nilE)))
def G_end_in : List D → Option D := runF 1 F_end_in
theorem c_end_in (T : Txt K mg) : C8.Cal P w K mg base 2 "end_in" (spD 1 G_end_in) [] := T.d_end_in.cal (k := 1) sc_end_in fun cdv A outer s H E f hr => by
  exact (dss_one (ds_ret (de_cmp rd_eq (op_eqD hr.units) (de_call (c_pairs_in T) hr (by decide) (by rfl) (da_cons (de_var (pv 0)) da_nil)) (de_lst da_nil) (nomark _))))
/-! ### call_in -/
def F_call_in : ES → Option Out := (seqF (setF 2 (callE 2 G_spare_in (consE (vE 0) (consE (vE 1) nilE))))
  (seqF (setF 3 (bE tupleG (consE (lcE (tupE (o2 ixG (vE 0) (vE 1))) (.nm 4) (asB (o2 (inG true) (vE 4) (vE 2))) (vE 4) [4]) nilE)))
  (retF (tupE' (starE (slE (vE 0) (fun _ => some none) (partE (vE 1))) (consE (vE 3) (starE (slE (vE 0) (partE (o2 addG (vE 1) (cE (.int 1)))) (fun _ => some none)) nilE)))))))
def G_call_in : List D → Option D := runF 5 F_call_in
theorem c_call_in (T : Txt K mg) : C8.Cal P w K mg base 3 "call_in" (spD 2 G_call_in) [] := T.d_call_in.cal (k := 2) sc_call_in fun cdv A outer s H E f hr => by
  exact (dss_cons (ds_set (i := 2) sc_call_in.nd rfl (by first | exact .inl rfl | exact .inr rfl) (de_call (c_spare_in T) hr (by decide) (by rfl) (da_cons (de_var (pv 0)) (da_cons (de_var (pv 1)) da_nil))))
    (dss_cons (ds_set (i := 3) sc_call_in.nd rfl (by first | exact .inl rfl | exact .inr rfl) (de_callTy rc_tuple call_tuple_of (by rfl) T.z_tuple bt_tuple (da_cons (de_lc [("thing", 4)] rfl sc_call_in.nd (di_tup (de_ix (de_var (pv 0)) (de_var (pv 1)))) (by kernel_rfl) (fun _ _ _ _ _ => (pg_name (i := 4) sc_call_in.nd rfl (by first | exact .inl rfl | exact .inr rfl))) gd_nm (bt_one fun _ _ _ _ _ => (dt_cmp (rd_in (neg := true)) op_notIn_seq (de_var (pv 4)) (de_var (pv 2)) (by rfl))) (fun _ _ _ _ _ => (de_var (pv 4))) (by decide)) da_nil)))
    (dss_one (ds_ret (de_tup (da_star (de_slT (de_var (pv 0)) do_none (do_some (de_var (pv 1)))) (da_cons (de_var (pv 3)) (da_star (de_slT (de_var (pv 0)) (do_some (de_op rd_add op_add (de_var (pv 1)) (de_int pe_int))) do_none) da_nil))))))))
end
end DL
end Part_PA2
section Part_PA3
set_option Elab.async false
set_option linter.all false
set_option maxRecDepth 100000
set_option maxHeartbeats 2000000
set_option autoImplicit false
namespace DL
open PySem PySem.Spec PyProof.Rows L2 Evl
section
variable {P : Program} {w : World} {K : PySem.W.Frag} {mg : Str → Option Value} {base : Heap}
/-! ### story_in -/
def F_story_in : ES → Option Out := (seqF (own1F 2 (vE 0))
  (seqF (forF (tupE (vE 1)) (.nm 3) (appRF 2 (callE 2 G_call_in (consE (o2 ixG (vE 2) (cE (.int (-1)))) (consE (vE 3) nilE)))))
  (retF (vE 2))))
def G_story_in : List D → Option D := runF 4 F_story_in
theorem c_story_in (T : Txt K mg) : C8.Cal P w K mg base 4 "story_in" (spD 2 G_story_in) [] := T.d_story_in.cal (k := 3) sc_story_in fun cdv A outer s H E f hr => by
  exact (dss_cons (ds_own1 (ps_set (i := 2) sc_story_in.nd rfl (by first | exact .inl rfl | exact .inr rfl) (pe_lst (pa_cons (de_var (pv 0)) pa_nil))))
    (dss_cons (ds_for PassesOwn.never rfl (di_tup (de_var (pv 1))) (pg_name (i := 3) sc_story_in.nd rfl (by first | exact .inl rfl | exact .inr rfl)) gd_nm (dss_one (ds_appR (ps_expr (pe_bm PySem.F.plainAttrs_list PySem.F.slot_list_append PySem.F.type_list_append mt_append (pv 2) (pa_cons (de_call (c_call_in T) hr (by decide) (by rfl) (da_cons (de_ix (de_var (pv 2)) de_neg) (da_cons (de_var (pv 3)) da_nil))) pa_nil))))))
    (dss_one (ds_ret (de_var (pv 2))))))
/-! ### has_ring -/
def F_has_ring : ES → Option Out := (seqF (setF 1 (usortE (lc2E (lstE (vE 0)) (.nm 3) tyE (tupE (vE 3)) (.nm 4) tyE (vE 4) [3, 4] [4])))
  (seqF (whF (asB (o2 neG (vE 1) (lstE' nilE))) (seqF (setF 2 (lcE (lstE (vE 1)) (.nm 4) (notB (asB (bE anyG (consE (lcE (lstE (vE 0)) (.nm 3) tyE (blE (andB (asB (o2 eqG (o2 ixG (vE 3) (cE (.int 1))) (vE 4))) (asB (o2 (inG false) (o2 ixG (vE 3) (cE (.int 0))) (vE 1))))) [3]) nilE)))) (vE 4) [4]))
  (seqF (ifF (asB (o2 eqG (vE 2) (lstE' nilE))) (retF (cE (.bl true))) nextF)
  (setF 1 (lcE (lstE (vE 1)) (.nm 4) (asB (o2 (inG true) (vE 4) (vE 2))) (vE 4) [4])))) 12)
  (retF (cE (.bl false)))))
def G_has_ring : List D → Option D := runF 5 F_has_ring
theorem c_has_ring (T : Txt K mg) : C8.Cal P w K mg base 1 "has_ring" (spD 1 G_has_ring) [] := T.d_has_ring.cal (k := 0) sc_has_ring fun cdv A outer s H E f hr => by
  exact (dss_cons (ds_set (i := 1) sc_has_ring.nd rfl (by first | exact .inl rfl | exact .inr rfl) (de_usort rfl (by rfl) T.z_sorted (by rfl) T.z_set (de_lc2 [("pair", 3), ("person", 4)] [4] rfl sc_has_ring.nd (di_list (de_var (pv 0))) (by kernel_rfl) (by decide) (fun _ _ _ _ _ => (pg_name (i := 3) sc_has_ring.nd rfl (by first | exact .inl rfl | exact .inr rfl))) gd_nm bt_nil (fun _ _ _ _ _ => (di_tup (de_var (pv 3)))) (fun _ _ _ _ _ => (pg_name (i := 4) sc_has_ring.nd rfl (by first | exact .inl rfl | exact .inr rfl))) gd_nm bt_nil (fun _ _ _ _ _ => (de_var (pv 4))) (by decide) (by decide))))
    (dss_cons (ds_while 12 PassesOwn.never (dt_cmp rd_ne (op_neD hr.units) (de_var (pv 1)) (de_lst da_nil) (nomark _)) (dss_cons (ds_set (i := 2) sc_has_ring.nd rfl (by first | exact .inl rfl | exact .inr rfl) (de_lc [("person", 4)] rfl sc_has_ring.nd (di_list (de_var (pv 1))) (by kernel_rfl) (fun _ _ _ _ _ => (pg_name (i := 4) sc_has_ring.nd rfl (by first | exact .inl rfl | exact .inr rfl))) gd_nm (bt_one fun _ _ _ _ _ => (dt_not (dt_val (de_callB rc_any (cr_any rfl) (by rfl) T.z_any bt_any (da_cons (de_lc [("pair", 3)] rfl sc_has_ring.nd (di_list (de_var (pv 0))) (by kernel_rfl) (fun _ _ _ _ _ => (pg_name (i := 3) sc_has_ring.nd rfl (by first | exact .inl rfl | exact .inr rfl))) gd_nm bt_nil (fun _ _ _ _ _ => (de_and (de_cmp rd_eq (op_eqD hr.units) (de_ix (de_var (pv 3)) (de_int pe_int)) (de_var (pv 4)) (nomark _)) (de_one (de_cmp (rd_in (neg := false)) op_in_seq (de_ix (de_var (pv 3)) (de_int pe_int)) (de_var (pv 1)) (by rfl))))) (by decide)) da_nil))))) (fun _ _ _ _ _ => (de_var (pv 4))) (by decide)))
    (dss_cons (ds_if (dt_cmp rd_eq (op_eqD hr.units) (de_var (pv 2)) (de_lst da_nil) (nomark _)) (dss_one (ds_ret (de_bl pe_bl))) ds_nil)
    (dss_one (ds_set (i := 1) sc_has_ring.nd rfl (by first | exact .inl rfl | exact .inr rfl) (de_lc [("person", 4)] rfl sc_has_ring.nd (di_list (de_var (pv 1))) (by kernel_rfl) (fun _ _ _ _ _ => (pg_name (i := 4) sc_has_ring.nd rfl (by first | exact .inl rfl | exact .inr rfl))) gd_nm (bt_one fun _ _ _ _ _ => (dt_cmp (rd_in (neg := true)) op_notIn_seq (de_var (pv 4)) (de_var (pv 2)) (by rfl))) (fun _ _ _ _ _ => (de_var (pv 4))) (by decide)))))))
    (dss_one (ds_ret (de_bl pe_bl)))))
/-! ### steps_of -/
def F_steps_of : ES → Option Out := (seqF (ownF 2)
  (seqF (itF 1 (.pr 3 4) (growF 2 (lstE (lcE (lstE (callE 2 G_holders_in (consE (vE 0) (consE (vE 3) nilE)))) (.nm 5) (asB (o2 neG (vE 5) (vE 4))) (tupE' (consE (vE 5) (consE (vE 4) nilE))) [5]))))
  (retF (vE 2))))
def G_steps_of : List D → Option D := runF 6 F_steps_of
theorem c_steps_of (T : Txt K mg) : C8.Cal P w K mg base 2 "steps_of" (spD 2 G_steps_of) [] := T.d_steps_of.cal (k := 1) sc_steps_of fun cdv A outer s H E f hr => by
  exact (dss_cons (ds_new (i := 2) sc_steps_of.nd rfl (by first | exact .inl rfl | exact .inr rfl))
    (dss_cons (ds_items (k := 1) (fun _ h => h) PassesOwn.never rfl (pv 1) (pg_tup rfl (pgs_cons (pg_name (i := 3) sc_steps_of.nd rfl (by first | exact .inl rfl | exact .inr rfl)) (pgs_cons (pg_name (i := 4) sc_steps_of.nd rfl (by first | exact .inl rfl | exact .inr rfl)) pgs_nil))) gd_pr (dss_one (ds_ext (ps_expr (pe_bm PySem.F.plainAttrs_list PySem.F.slot_list_extend PySem.F.type_list_extend mt_extend (pv 2) (pa_cons (de_lc [("other", 5)] rfl sc_steps_of.nd (di_list (de_call (c_holders_in T) hr (by decide) (by rfl) (da_cons (de_var (pv 0)) (da_cons (de_var (pv 3)) da_nil)))) (by kernel_rfl) (fun _ _ _ _ _ => (pg_name (i := 5) sc_steps_of.nd rfl (by first | exact .inl rfl | exact .inr rfl))) gd_nm (bt_one fun _ _ _ _ _ => (dt_cmp rd_ne (op_neD hr.units) (de_var (pv 5)) (de_var (pv 4)) (nomark _))) (fun _ _ _ _ _ => (de_tup (da_cons (de_var (pv 5)) (da_cons (de_var (pv 4)) da_nil)))) (by decide)) pa_nil))))))
    (dss_one (ds_ret (de_var (pv 2))))))
/-! ### keepers_in -/
def F_keepers_in : ES → Option Out := (seqF (setF 1 (lstE' (consE (cE (.dic [])) nilE)))
  (seqF (forF (lstE (callE 1 G_things_in (consE (vE 0) nilE))) (.nm 2) (seqF (ownF 3)
  (seqF (forF (lstE (vE 1)) (.nm 4) (forF (lstE (callE 2 G_holders_in (consE (vE 0) (consE (vE 2) nilE)))) (.nm 5) (seqF (setF 6 (mrgE (vE 4) (vE 2) (vE 5)))
  (ifF (notB (asB (callE 1 G_has_ring (consE (callE 2 G_steps_of (consE (vE 0) (consE (vE 6) nilE))) nilE)))) (appF 3 (vE 6)) nextF))))
  (setRF 1 (vE 3)))))
  (retF (vE 1))))
def G_keepers_in : List D → Option D := runF 7 F_keepers_in
theorem c_keepers_in (T : Txt K mg) : C8.Cal P w K mg base 3 "keepers_in" (spD 1 G_keepers_in) [] := T.d_keepers_in.cal (k := 2) sc_keepers_in fun cdv A outer s H E f hr => by
  exact (dss_cons (ds_set (i := 1) sc_keepers_in.nd rfl (by first | exact .inl rfl | exact .inr rfl) (de_lst (da_cons de_dnew da_nil)))
    (dss_cons (ds_for PassesOwn.never rfl (di_list (de_call (c_things_in T) hr (by decide) (by rfl) (da_cons (de_var (pv 0)) da_nil))) (pg_name (i := 2) sc_keepers_in.nd rfl (by first | exact .inl rfl | exact .inr rfl)) gd_nm (dss_cons (ds_new (i := 3) sc_keepers_in.nd rfl (by first | exact .inl rfl | exact .inr rfl))
    (dss_cons (ds_for PassesOwn.never rfl (di_list (de_var (pv 1))) (pg_name (i := 4) sc_keepers_in.nd rfl (by first | exact .inl rfl | exact .inr rfl)) gd_nm (dss_one (ds_for PassesOwn.never rfl (di_list (de_call (c_holders_in T) hr (by decide) (by rfl) (da_cons (de_var (pv 0)) (da_cons (de_var (pv 2)) da_nil)))) (pg_name (i := 5) sc_keepers_in.nd rfl (by first | exact .inl rfl | exact .inr rfl)) gd_nm (dss_cons (ds_set (i := 6) sc_keepers_in.nd rfl (by first | exact .inl rfl | exact .inr rfl) (de_mrg (de_var (pv 4)) (de_var (pv 2)) (de_var (pv 5))))
    (dss_one (ds_if (dt_not (dt_val (de_call (c_has_ring T) hr (by decide) (by rfl) (da_cons (de_call (c_steps_of T) hr (by decide) (by rfl) (da_cons (de_var (pv 0)) (da_cons (de_var (pv 6)) da_nil))) da_nil)))) (dss_one (ds_app (ps_expr (pe_bm PySem.F.plainAttrs_list PySem.F.slot_list_append PySem.F.type_list_append mt_append (pv 3) (pa_cons (de_var (pv 6)) pa_nil))))) ds_nil))))))
    (dss_one (ds_setR (i := 1) sc_keepers_in.nd rfl (by first | exact .inl rfl | exact .inr rfl) (de_var (pv 3)))))))
    (dss_one (ds_ret (de_var (pv 1))))))
/-! ### end_by -/
def F_end_by : ES → Option Out := (seqF (ownF 2)
  (seqF (forF (rg1E (consE (bE lenG (consE (vE 0) nilE)) nilE)) (.nm 3) (appF 2 (bE tupleG (consE (lcE (tupE (o2 ixG (vE 0) (vE 3))) (.nm 4) (asB (o2 eqG (o2 lookG (vE 1) (vE 4)) (vE 3))) (vE 4) [4]) nilE))))
  (retF (bE tupleG (consE (vE 2) nilE)))))
def G_end_by : List D → Option D := runF 5 F_end_by
theorem c_end_by (T : Txt K mg) : C8.Cal P w K mg base 1 "end_by" (spD 2 G_end_by) [] := T.d_end_by.cal (k := 0) sc_end_by fun cdv A outer s H E f hr => by
  exact (dss_cons (ds_new (i := 2) sc_end_by.nd rfl (by first | exact .inl rfl | exact .inr rfl))
    (dss_cons (ds_for PassesOwn.never rfl (di_rng1 (by rfl) T.z_range (da_cons (de_callB rc_len call_len_seq (by rfl) T.z_len bt_len (da_cons (de_var (pv 0)) da_nil)) da_nil)) (pg_name (i := 3) sc_end_by.nd rfl (by first | exact .inl rfl | exact .inr rfl)) gd_nm (dss_one (ds_app (ps_expr (pe_bm PySem.F.plainAttrs_list PySem.F.slot_list_append PySem.F.type_list_append mt_append (pv 2) (pa_cons (de_callTy rc_tuple call_tuple_of (by rfl) T.z_tuple bt_tuple (da_cons (de_lc [("thing", 4)] rfl sc_end_by.nd (di_tup (de_ix (de_var (pv 0)) (de_var (pv 3)))) (by kernel_rfl) (fun _ _ _ _ _ => (pg_name (i := 4) sc_end_by.nd rfl (by first | exact .inl rfl | exact .inr rfl))) gd_nm (bt_one fun _ _ _ _ _ => (dt_cmp rd_eq (op_eqD hr.units) (de_look (hu_of hr) (de_var (pv 1)) (de_var (pv 4))) (de_var (pv 3)) (nomark _))) (fun _ _ _ _ _ => (de_var (pv 4))) (by decide)) da_nil)) pa_nil))))))
    (dss_one (ds_ret (de_callTy rc_tuple call_tuple_of (by rfl) T.z_tuple bt_tuple (da_cons (de_var (pv 2)) da_nil))))))
end
end DL
end Part_PA3
section Part_PA4
set_option Elab.async false
set_option linter.all false
set_option maxRecDepth 100000
set_option maxHeartbeats 2000000
set_option autoImplicit false
namespace DL
open PySem PySem.Spec PyProof.Rows L2 Evl
section
variable {P : Program} {w : World} {K : PySem.W.Frag} {mg : Str → Option Value} {base : Heap}
/-! ### ends_in -/
def F_ends_in : ES → Option Out := (retF (bE sortHG (consE (lcE (lstE (callE 1 G_keepers_in (consE (vE 0) nilE))) (.nm 1) tyE (callE 2 G_end_by (consE (vE 0) (consE (vE 1) nilE))) [1]) nilE)))
def G_ends_in : List D → Option D := runF 2 F_ends_in
theorem c_ends_in (T : Txt K mg) : C8.Cal P w K mg base 4 "ends_in" (spD 1 G_ends_in) [] := T.d_ends_in.cal (k := 3) sc_ends_in fun cdv A outer s H E f hr => by
  exact (dss_one (ds_ret (de_callB rc_sortH (cr_sortH hr.units) (by rfl) T.z_sorted bt_sorted (da_cons (de_lc [("keeper", 1)] rfl sc_ends_in.nd (di_list (de_call (c_keepers_in T) hr (by decide) (by rfl) (da_cons (de_var (pv 0)) da_nil))) (by kernel_rfl) (fun _ _ _ _ _ => (pg_name (i := 1) sc_ends_in.nd rfl (by first | exact .inl rfl | exact .inr rfl))) gd_nm bt_nil (fun _ _ _ _ _ => (de_call (c_end_by T) hr (by decide) (by rfl) (da_cons (de_var (pv 0)) (da_cons (de_var (pv 1)) da_nil)))) (by decide)) da_nil))))
/-! ### ends -/
def F_ends : ES → Option Out := (seqF (dropF (callE 1 G_need_hands (consE (vE 0) nilE)))
  (retF (callE 1 G_ends_in (consE (vE 0) nilE))))
def G_ends : List D → Option D := runF 1 F_ends
theorem c_ends (T : Txt K mg) : C8.Cal P w K mg base 5 "ends" (spD 1 G_ends) [] := T.d_ends.cal (k := 4) sc_ends fun cdv A outer s H E f hr => by
  exact (dss_cons (ds_drop (de_call (c_need_hands T) hr (by decide) (by rfl) (da_cons (de_var (pv 0)) da_nil)))
    (dss_one (ds_ret (de_call (c_ends_in T) hr (by decide) (by rfl) (da_cons (de_var (pv 0)) da_nil)))))
/-! ### count_ends -/
def F_count_ends : ES → Option Out := (seqF (dropF (callE 1 G_need_hands (consE (vE 0) nilE)))
  (retF (bE lenG (consE (callE 1 G_keepers_in (consE (vE 0) nilE)) nilE))))
def G_count_ends : List D → Option D := runF 1 F_count_ends
theorem c_count_ends (T : Txt K mg) : C8.Cal P w K mg base 5 "count_ends" (spD 1 G_count_ends) [] := T.d_count_ends.cal (k := 4) sc_count_ends fun cdv A outer s H E f hr => by
  exact (dss_cons (ds_drop (de_call (c_need_hands T) hr (by decide) (by rfl) (da_cons (de_var (pv 0)) da_nil)))
    (dss_one (ds_ret (de_callB rc_len call_len_seq (by rfl) T.z_len bt_len (da_cons (de_call (c_keepers_in T) hr (by decide) (by rfl) (da_cons (de_var (pv 0)) da_nil)) da_nil)))))
/-! ### need_end -/
def F_need_end : ES → Option Out := (seqF (dropF (callE 2 G_need_two (consE (vE 0) (consE (vE 1) nilE))))
  (ifF (notB (asB (callE 1 G_end_in (consE (vE 1) nilE)))) neverF nextF))
def G_need_end : List D → Option D := runF 2 F_need_end
theorem c_need_end (T : Txt K mg) : C8.Cal P w K mg base 6 "need_end" (spD 2 G_need_end) [] := T.d_need_end.cal (k := 5) sc_need_end fun cdv A outer s H E f hr => by
  exact (dss_cons (ds_drop (de_call (c_need_two T) hr (by decide) (by rfl) (da_cons (de_var (pv 0)) (da_cons (de_var (pv 1)) da_nil))))
    (dss_one (ds_if (dt_not (dt_val (de_call (c_end_in T) hr (by decide) (by rfl) (da_cons (de_var (pv 1)) da_nil)))) (dss_one ds_never) ds_nil)))
/-! ### fits_end -/
def F_fits_end : ES → Option Out := (seqF (ifF (asB (o2 neG (callE 1 G_things_in (consE (vE 0) nilE)) (callE 1 G_things_in (consE (vE 1) nilE)))) (retF (cE (.bl false))) nextF)
  (seqF (ifF (asB (bE anyG (consE (lc2E (rg1E (consE (bE lenG (consE (vE 0) nilE)) nilE)) (.nm 3) tyE (tupE (o2 ixG (vE 1) (vE 3))) (.nm 4) tyE (o2 (inG true) (vE 4) (o2 ixG (vE 0) (vE 3))) [3, 4] [4]) nilE))) (retF (cE (.bl false))) nextF)
  (seqF (setF 2 (dc2E (rg1E (consE (bE lenG (consE (vE 0) nilE)) nilE)) (.nm 3) (tupE (o2 ixG (vE 1) (vE 3))) (.nm 4) (vE 4) (vE 3) [3, 4] [4]))
  (retF (blE (notB (asB (callE 1 G_has_ring (consE (callE 2 G_steps_of (consE (vE 0) (consE (vE 2) nilE))) nilE)))))))))
def G_fits_end : List D → Option D := runF 5 F_fits_end
theorem c_fits_end (T : Txt K mg) : C8.Cal P w K mg base 3 "fits_end" (spD 2 G_fits_end) [] := T.d_fits_end.cal (k := 2) sc_fits_end fun cdv A outer s H E f hr => by
  exact (dss_cons (ds_if (dt_cmp rd_ne (op_neD hr.units) (de_call (c_things_in T) hr (by decide) (by rfl) (da_cons (de_var (pv 0)) da_nil)) (de_call (c_things_in T) hr (by decide) (by rfl) (da_cons (de_var (pv 1)) da_nil)) (nomark _)) (dss_one (ds_ret (de_bl pe_bl))) ds_nil)
    (dss_cons (ds_if (dt_val (de_callB rc_any (cr_any rfl) (by rfl) T.z_any bt_any (da_cons (de_lc2 [("person", 3), ("thing", 4)] [4] rfl sc_fits_end.nd (di_rng1 (by rfl) T.z_range (da_cons (de_callB rc_len call_len_seq (by rfl) T.z_len bt_len (da_cons (de_var (pv 0)) da_nil)) da_nil)) (by kernel_rfl) (by decide) (fun _ _ _ _ _ => (pg_name (i := 3) sc_fits_end.nd rfl (by first | exact .inl rfl | exact .inr rfl))) gd_nm bt_nil (fun _ _ _ _ _ => (di_tup (de_ix (de_var (pv 1)) (de_var (pv 3))))) (fun _ _ _ _ _ => (pg_name (i := 4) sc_fits_end.nd rfl (by first | exact .inl rfl | exact .inr rfl))) gd_nm bt_nil (fun _ _ _ _ _ => (de_cmp (rd_in (neg := true)) op_notIn_seq (de_var (pv 4)) (de_ix (de_var (pv 0)) (de_var (pv 3))) (by rfl))) (by decide) (by decide)) da_nil))) (dss_one (ds_ret (de_bl pe_bl))) ds_nil)
    (dss_cons (ds_setDc2 (i := 2) [("person", 3), ("thing", 4)] [4] rfl sc_fits_end.nd rfl rfl (swd_true rfl rfl (by rfl) (by rfl)) (di_rng1 (by rfl) T.z_range (da_cons (de_callB rc_len call_len_seq (by rfl) T.z_len bt_len (da_cons (de_var (pv 0)) da_nil)) da_nil)) (by kernel_rfl) (by decide) (fun _ _ _ _ _ => (pg_name (i := 3) sc_fits_end.nd rfl (by first | exact .inl rfl | exact .inr rfl))) gd_nm (fun _ _ _ _ _ => (di_tup (de_ix (de_var (pv 1)) (de_var (pv 3))))) (fun _ _ _ _ _ => (pg_name (i := 4) sc_fits_end.nd rfl (by first | exact .inl rfl | exact .inr rfl))) gd_nm (fun _ _ _ _ _ => (de_var (pv 4))) (fun _ _ _ _ _ => (de_var (pv 3))) (by decide) (by decide))
    (dss_one (ds_ret (de_not (de_call (c_has_ring T) hr (by decide) (by rfl) (da_cons (de_call (c_steps_of T) hr (by decide) (by rfl) (da_cons (de_var (pv 0)) (da_cons (de_var (pv 2)) da_nil))) da_nil))))))))
/-! ### can_end -/
def F_can_end : ES → Option Out := (seqF (dropF (callE 2 G_need_end (consE (vE 0) (consE (vE 1) nilE))))
  (retF (callE 2 G_fits_end (consE (vE 0) (consE (vE 1) nilE)))))
def G_can_end : List D → Option D := runF 2 F_can_end
theorem c_can_end (T : Txt K mg) : C8.Cal P w K mg base 7 "can_end" (spD 2 G_can_end) [] := T.d_can_end.cal (k := 6) sc_can_end fun cdv A outer s H E f hr => by
  exact (dss_cons (ds_drop (de_call (c_need_end T) hr (by decide) (by rfl) (da_cons (de_var (pv 0)) (da_cons (de_var (pv 1)) da_nil))))
    (dss_one (ds_ret (de_call (c_fits_end T) hr (by decide) (by rfl) (da_cons (de_var (pv 0)) (da_cons (de_var (pv 1)) da_nil))))))
/-! ### least_end -/
def F_least_end : ES → Option Out := (seqF (dropF (callE 1 G_need_hands (consE (vE 0) nilE)))
  (retF (o2 ixG (callE 1 G_ends_in (consE (vE 0) nilE)) (cE (.int 0)))))
def G_least_end : List D → Option D := runF 1 F_least_end
theorem c_least_end (T : Txt K mg) : C8.Cal P w K mg base 5 "least_end" (spD 1 G_least_end) [] := T.d_least_end.cal (k := 4) sc_least_end fun cdv A outer s H E f hr => by
  exact (dss_cons (ds_drop (de_call (c_need_hands T) hr (by decide) (by rfl) (da_cons (de_var (pv 0)) da_nil)))
    (dss_one (ds_ret (de_ix (de_call (c_ends_in T) hr (by decide) (by rfl) (da_cons (de_var (pv 0)) da_nil)) (de_int pe_int)))))
/-! ### greatest_end -/
def F_greatest_end : ES → Option Out := (seqF (dropF (callE 1 G_need_hands (consE (vE 0) nilE)))
  (retF (o2 ixG (callE 1 G_ends_in (consE (vE 0) nilE)) (cE (.int (-1))))))
def G_greatest_end : List D → Option D := runF 1 F_greatest_end
theorem c_greatest_end (T : Txt K mg) : C8.Cal P w K mg base 5 "greatest_end" (spD 1 G_greatest_end) [] := T.d_greatest_end.cal (k := 4) sc_greatest_end fun cdv A outer s H E f hr => by
  exact (dss_cons (ds_drop (de_call (c_need_hands T) hr (by decide) (by rfl) (da_cons (de_var (pv 0)) da_nil)))
    (dss_one (ds_ret (de_ix (de_call (c_ends_in T) hr (by decide) (by rfl) (da_cons (de_var (pv 0)) da_nil)) de_neg))))
/-! ### can_keep -/
def F_can_keep : ES → Option Out := (seqF (dropF (callE 1 G_need_hands (consE (vE 0) nilE)))
  (seqF (dropF (callE 2 G_need_thing (consE (vE 0) (consE (vE 1) nilE))))
  (retF (bE tupleG (consE (usortE (lcE (lstE (callE 1 G_keepers_in (consE (vE 0) nilE))) (.nm 2) tyE (o2 lookG (vE 2) (vE 1)) [2])) nilE)))))
def G_can_keep : List D → Option D := runF 3 F_can_keep
theorem c_can_keep (T : Txt K mg) : C8.Cal P w K mg base 5 "can_keep" (spD 2 G_can_keep) [] := T.d_can_keep.cal (k := 4) sc_can_keep fun cdv A outer s H E f hr => by
  exact (dss_cons (ds_drop (de_call (c_need_hands T) hr (by decide) (by rfl) (da_cons (de_var (pv 0)) da_nil)))
    (dss_cons (ds_drop (de_call (c_need_thing T) hr (by decide) (by rfl) (da_cons (de_var (pv 0)) (da_cons (de_var (pv 1)) da_nil))))
    (dss_one (ds_ret (de_callTy rc_tuple call_tuple_of (by rfl) T.z_tuple bt_tuple (da_cons (de_usort rfl (by rfl) T.z_sorted (by rfl) T.z_set (de_lc [("keeper", 2)] rfl sc_can_keep.nd (di_list (de_call (c_keepers_in T) hr (by decide) (by rfl) (da_cons (de_var (pv 0)) da_nil))) (by kernel_rfl) (fun _ _ _ _ _ => (pg_name (i := 2) sc_can_keep.nd rfl (by first | exact .inl rfl | exact .inr rfl))) gd_nm bt_nil (fun _ _ _ _ _ => (de_look (hu_of hr) (de_var (pv 2)) (de_var (pv 1)))) (by decide))) da_nil))))))
end
end DL
end Part_PA4
section Part_PA5
set_option Elab.async false
set_option linter.all false
set_option maxRecDepth 100000
set_option maxHeartbeats 2000000
set_option autoImplicit false
namespace DL
open PySem PySem.Spec PyProof.Rows L2 Evl
section
variable {P : Program} {w : World} {K : PySem.W.Frag} {mg : Str → Option Value} {base : Heap}
/-! ### need_order -/
def F_need_order : ES → Option Out := (seqF (setF 2 (bE lenG (consE (vE 0) nilE)))
  (seqF (ifF (orB (notB (asB (callE 3 G_is_list (consE (vE 1) (consE (vE 2) (consE (vE 2) nilE)))))) (notB (asB (bE allG (consE (lcE (tupE (vE 1)) (.nm 3) tyE (callE 3 G_is_in (consE (vE 3) (consE (cE (.int 0)) (consE (o2 subG (vE 2) (cE (.int 1))) nilE)))) [3]) nilE))))) neverF nextF)
  (ifF (asB (o2 neG (bE sortTG (consE (vE 1) nilE)) (lrgE (vE 2)))) neverF nextF)))
def G_need_order : List D → Option D := runF 4 F_need_order
theorem c_need_order (T : Txt K mg) : C8.Cal P w K mg base 3 "need_order" (spD 2 G_need_order) [] := T.d_need_order.cal (k := 2) sc_need_order fun cdv A outer s H E f hr => by
  exact (dss_cons (ds_set (i := 2) sc_need_order.nd rfl (by first | exact .inl rfl | exact .inr rfl) (de_callB rc_len call_len_seq (by rfl) T.z_len bt_len (da_cons (de_var (pv 0)) da_nil)))
    (dss_cons (ds_if (PW.pt (dw_or (dt_not (dt_val (de_call (c_is_list T) hr (by decide) (by rfl) (da_cons (de_var (pv 1)) (da_cons (de_var (pv 2)) (da_cons (de_var (pv 2)) da_nil)))))) (dw_or1 (dt_not (dt_val (de_callB rc_all (cr_all rfl) (by rfl) T.z_all bt_all (da_cons (de_lc [("person", 3)] rfl sc_need_order.nd (di_tup (de_var (pv 1))) (by kernel_rfl) (fun _ _ _ _ _ => (pg_name (i := 3) sc_need_order.nd rfl (by first | exact .inl rfl | exact .inr rfl))) gd_nm bt_nil (fun _ _ _ _ _ => (de_call (c_is_in T) hr (by decide) (by rfl) (da_cons (de_var (pv 3)) (da_cons (de_int pe_int) (da_cons (de_op rd_sub op_sub (de_var (pv 2)) (de_int pe_int)) da_nil))))) (by decide)) da_nil))))))) (dss_one ds_never) ds_nil)
    (dss_one (ds_if (dt_cmp rd_ne (op_neD hr.units) (de_callB rc_sortT cr_sortedT (by rfl) T.z_sorted bt_sorted (da_cons (de_var (pv 1)) da_nil)) (de_listRg rfl (by rfl) T.z_list (by rfl) T.z_range (de_var (pv 2))) (nomark _)) (dss_one ds_never) ds_nil))))
/-! ### end_of -/
def F_end_of : ES → Option Out := (seqF (dropF (callE 1 G_need_hands (consE (vE 0) nilE)))
  (seqF (dropF (callE 2 G_need_order (consE (vE 0) (consE (vE 1) nilE))))
  (retF (o2 ixG (callE 2 G_story_in (consE (vE 0) (consE (vE 1) nilE))) (cE (.int (-1)))))))
def G_end_of : List D → Option D := runF 2 F_end_of
theorem c_end_of (T : Txt K mg) : C8.Cal P w K mg base 5 "end_of" (spD 2 G_end_of) [] := T.d_end_of.cal (k := 4) sc_end_of fun cdv A outer s H E f hr => by
  exact (dss_cons (ds_drop (de_call (c_need_hands T) hr (by decide) (by rfl) (da_cons (de_var (pv 0)) da_nil)))
    (dss_cons (ds_drop (de_call (c_need_order T) hr (by decide) (by rfl) (da_cons (de_var (pv 0)) (da_cons (de_var (pv 1)) da_nil))))
    (dss_one (ds_ret (de_ix (de_call (c_story_in T) hr (by decide) (by rfl) (da_cons (de_var (pv 0)) (da_cons (de_var (pv 1)) da_nil))) de_neg)))))
/-! ### _law_holders -/
def F__law_holders : ES → Option Out := (retF (lcE (rg1E (consE (bE lenG (consE (vE 0) nilE)) nilE)) (.nm 2) (asB (o2 (inG false) (vE 1) (o2 ixG (vE 0) (vE 2)))) (vE 2) [2]))
def G__law_holders : List D → Option D := runF 3 F__law_holders
theorem c__law_holders (T : Txt K mg) : C8.Cal P w K mg base 1 "_law_holders" (spD 2 G__law_holders) [] := T.d__law_holders.cal (k := 0) sc__law_holders fun cdv A outer s H E f hr => by
  exact (dss_one (ds_ret (de_lc [("_law_person", 2)] rfl sc__law_holders.nd (di_rng1 (by rfl) T.z_range (da_cons (de_callB rc_len call_len_seq (by rfl) T.z_len bt_len (da_cons (de_var (pv 0)) da_nil)) da_nil)) (by kernel_rfl) (fun _ _ _ _ _ => (pg_name (i := 2) sc__law_holders.nd rfl (by first | exact .inl rfl | exact .inr rfl))) gd_nm (bt_one fun _ _ _ _ _ => (dt_cmp (rd_in (neg := false)) op_in_seq (de_var (pv 1)) (de_ix (de_var (pv 0)) (de_var (pv 2))) (by rfl))) (fun _ _ _ _ _ => (de_var (pv 2))) (by decide))))
/-! ### _law_call -/
def F__law_call : ES → Option Out := (seqF (setF 2 (bE tupleG (consE (lcE (tupE (o2 ixG (vE 0) (vE 1))) (.nm 3) (asB (o2 eqG (callE 2 G__law_holders (consE (vE 0) (consE (vE 3) nilE))) (lstE' (consE (vE 1) nilE)))) (vE 3) [3]) nilE)))
  (retF (o2 catTG (o2 catTG (slE (vE 0) (fun _ => some none) (partE (vE 1))) (tupE' (consE (vE 2) nilE))) (slE (vE 0) (partE (o2 addG (vE 1) (cE (.int 1)))) (fun _ => some none)))))
def G__law_call : List D → Option D := runF 4 F__law_call
theorem c__law_call (T : Txt K mg) : C8.Cal P w K mg base 2 "_law_call" (spD 2 G__law_call) [] := T.d__law_call.cal (k := 1) sc__law_call fun cdv A outer s H E f hr => by
  exact (dss_cons (ds_set (i := 2) sc__law_call.nd rfl (by first | exact .inl rfl | exact .inr rfl) (de_callTy rc_tuple call_tuple_of (by rfl) T.z_tuple bt_tuple (da_cons (de_lc [("_law_thing", 3)] rfl sc__law_call.nd (di_tup (de_ix (de_var (pv 0)) (de_var (pv 1)))) (by kernel_rfl) (fun _ _ _ _ _ => (pg_name (i := 3) sc__law_call.nd rfl (by first | exact .inl rfl | exact .inr rfl))) gd_nm (bt_one fun _ _ _ _ _ => (dt_cmp rd_eq (op_eqD hr.units) (de_call (c__law_holders T) hr (by decide) (by rfl) (da_cons (de_var (pv 0)) (da_cons (de_var (pv 3)) da_nil))) (de_lst (da_cons (de_var (pv 1)) da_nil)) (nomark _))) (fun _ _ _ _ _ => (de_var (pv 3))) (by decide)) da_nil)))
    (dss_one (ds_ret (de_op rd_catT op_catA (de_op rd_catT op_catA (de_slT (de_var (pv 0)) do_none (do_some (de_var (pv 1)))) (de_tup (da_cons (de_var (pv 2)) da_nil))) (de_slT (de_var (pv 0)) (do_some (de_op rd_add op_add (de_var (pv 1)) (de_int pe_int))) do_none)))))
/-! ### _law_done -/
def F__law_done : ES → Option Out := (seqF (forF (tupE (vE 1)) (.nm 2) (setF 0 (callE 2 G__law_call (consE (vE 0) (consE (vE 2) nilE)))))
  (retF (vE 0)))
def G__law_done : List D → Option D := runF 3 F__law_done
theorem c__law_done (T : Txt K mg) : C8.Cal P w K mg base 3 "_law_done" (spD 2 G__law_done) [] := T.d__law_done.cal (k := 2) sc__law_done fun cdv A outer s H E f hr => by
  exact (dss_cons (ds_for PassesOwn.never rfl (di_tup (de_var (pv 1))) (pg_name (i := 2) sc__law_done.nd rfl (by first | exact .inl rfl | exact .inr rfl)) gd_nm (dss_one (ds_set (i := 0) sc__law_done.nd rfl (by first | exact .inl rfl | exact .inr rfl) (de_call (c__law_call T) hr (by decide) (by rfl) (da_cons (de_var (pv 0)) (da_cons (de_var (pv 2)) da_nil))))))
    (dss_one (ds_ret (de_var (pv 0)))))
/-! ### _law_orders -/
def F__law_orders : ES → Option Out := (seqF (setF 1 (lstE' (consE (tupE' nilE) nilE)))
  (seqF (forF (rg1E (consE (vE 0) nilE)) (.nm 2) (seqF (setF 3 (lstE' nilE))
  (seqF (forF (lstE (vE 1)) (.nm 4) (setF 3 (o2 catLG (vE 3) (lcE (rg1E (consE (vE 0) nilE)) (.nm 5) (asB (o2 (inG true) (vE 5) (vE 4))) (o2 catTG (vE 4) (tupE' (consE (vE 5) nilE))) [5]))))
  (setF 1 (vE 3)))))
  (retF (vE 1))))
def G__law_orders : List D → Option D := runF 6 F__law_orders
theorem c__law_orders (T : Txt K mg) : C8.Cal P w K mg base 1 "_law_orders" (spD 1 G__law_orders) [] := T.d__law_orders.cal (k := 0) sc__law_orders fun cdv A outer s H E f hr => by
  exact (dss_cons (ds_set (i := 1) sc__law_orders.nd rfl (by first | exact .inl rfl | exact .inr rfl) (de_lst (da_cons (de_tup da_nil) da_nil)))
    (dss_cons (ds_for PassesOwn.never rfl (di_rng1 (by rfl) T.z_range (da_cons (de_var (pv 0)) da_nil)) (pg_name (i := 2) sc__law_orders.nd rfl (by first | exact .inl rfl | exact .inr rfl)) gd_nm (dss_cons (ds_set (i := 3) sc__law_orders.nd rfl (by first | exact .inl rfl | exact .inr rfl) (de_lst da_nil))
    (dss_cons (ds_for PassesOwn.never rfl (di_list (de_var (pv 1))) (pg_name (i := 4) sc__law_orders.nd rfl (by first | exact .inl rfl | exact .inr rfl)) gd_nm (dss_one (ds_set (i := 3) sc__law_orders.nd rfl (by first | exact .inl rfl | exact .inr rfl) (de_op rd_catL op_cat (de_var (pv 3)) (de_lc [("_law_person", 5)] rfl sc__law_orders.nd (di_rng1 (by rfl) T.z_range (da_cons (de_var (pv 0)) da_nil)) (by kernel_rfl) (fun _ _ _ _ _ => (pg_name (i := 5) sc__law_orders.nd rfl (by first | exact .inl rfl | exact .inr rfl))) gd_nm (bt_one fun _ _ _ _ _ => (dt_cmp (rd_in (neg := true)) op_notIn_seq (de_var (pv 5)) (de_var (pv 4)) (by rfl))) (fun _ _ _ _ _ => (de_op rd_catT op_catA (de_var (pv 4)) (de_tup (da_cons (de_var (pv 5)) da_nil)))) (by decide))))))
    (dss_one (ds_set (i := 1) sc__law_orders.nd rfl (by first | exact .inl rfl | exact .inr rfl) (de_var (pv 3)))))))
    (dss_one (ds_ret (de_var (pv 1))))))
end
end DL
end Part_PA5
section Part_PA6
set_option Elab.async false
set_option linter.all false
set_option maxRecDepth 100000
set_option maxHeartbeats 2000000
set_option autoImplicit false
namespace DL
open PySem PySem.Spec PyProof.Rows L2 Evl
section
variable {P : Program} {w : World} {K : PySem.W.Frag} {mg : Str → Option Value} {base : Heap}
/-! ### keepers -/
def F_keepers : ES → Option Out := (seqF (dropF (callE 2 G_need_end (consE (vE 0) (consE (vE 1) nilE))))
  (seqF (ifF (notB (asB (callE 2 G_fits_end (consE (vE 0) (consE (vE 1) nilE))))) raiseF nextF)
  (seqF (ownF 2)
  (seqF (forF (lstE (callE 1 G_things_in (consE (vE 1) nilE))) (.nm 3) (appF 2 (tupE' (consE (vE 3) (consE (o2 ixG (callE 2 G_holders_in (consE (vE 1) (consE (vE 3) nilE))) (cE (.int 0))) nilE)))))
  (retF (bE tupleG (consE (vE 2) nilE)))))))
def G_keepers : List D → Option (Option D) := runX 4 F_keepers
theorem c_keepers {C CH : Addr} (T : Txt K mg) (TX : TxtX K mg C CH) : CalX P w K mg base 7 "keepers" (spX C 2 G_keepers) := T.d_keepers.calX (k := 6) sc_keepers fun cdv A outer s H E f hr => by
  exact (dss_cons (ds_drop (de_call (c_need_end T) hr (by decide) (by rfl) (da_cons (de_var (pv 0)) (da_cons (de_var (pv 1)) da_nil))))
    (dss_cons (ds_if (dt_not (dt_val (de_call (c_fits_end T) hr (by decide) (by rfl) (da_cons (de_var (pv 0)) (da_cons (de_var (pv 1)) da_nil))))) (dss_one (ds_raise rfl (takes_of rfl rfl rfl rfl) TX.own (fun _ _ h => h) (by rfl))) ds_nil)
    (dss_cons (ds_new (i := 2) sc_keepers.nd rfl (by first | exact .inl rfl | exact .inr rfl))
    (dss_cons (ds_for (passes_of rfl) rfl (di_list (de_call (c_things_in T) hr (by decide) (by rfl) (da_cons (de_var (pv 1)) da_nil))) (pg_name (i := 3) sc_keepers.nd rfl (by first | exact .inl rfl | exact .inr rfl)) gd_nm (dss_one (ds_app (ps_expr (pe_bm PySem.F.plainAttrs_list PySem.F.slot_list_append PySem.F.type_list_append mt_append (pv 2) (pa_cons (de_tup (da_cons (de_var (pv 3)) (da_cons (de_ix (de_call (c_holders_in T) hr (by decide) (by rfl) (da_cons (de_var (pv 1)) (da_cons (de_var (pv 3)) da_nil))) (de_int pe_int)) da_nil))) pa_nil))))))
    (dss_one (ds_ret (de_callTy rc_tuple call_tuple_of (by rfl) T.z_tuple bt_tuple (da_cons (de_var (pv 2)) da_nil))))))))
/-! ### ahead -/
def F_ahead : ES → Option Out := (seqF (dropF (callE 2 G_need_end (consE (vE 0) (consE (vE 1) nilE))))
  (seqF (ifF (notB (asB (callE 2 G_fits_end (consE (vE 0) (consE (vE 1) nilE))))) raiseF nextF)
  (seqF (setF 2 (dc2E (rg1E (consE (bE lenG (consE (vE 0) nilE)) nilE)) (.nm 3) (tupE (o2 ixG (vE 1) (vE 3))) (.nm 4) (vE 4) (vE 3) [3, 4] [4]))
  (retF (bE tupleG (consE (usortTE (callE 2 G_steps_of (consE (vE 0) (consE (vE 2) nilE)))) nilE))))))
def G_ahead : List D → Option (Option D) := runX 5 F_ahead
theorem c_ahead {C CH : Addr} (T : Txt K mg) (TX : TxtX K mg C CH) : CalX P w K mg base 7 "ahead" (spX C 2 G_ahead) := T.d_ahead.calX (k := 6) sc_ahead fun cdv A outer s H E f hr => by
  exact (dss_cons (ds_drop (de_call (c_need_end T) hr (by decide) (by rfl) (da_cons (de_var (pv 0)) (da_cons (de_var (pv 1)) da_nil))))
    (dss_cons (ds_if (dt_not (dt_val (de_call (c_fits_end T) hr (by decide) (by rfl) (da_cons (de_var (pv 0)) (da_cons (de_var (pv 1)) da_nil))))) (dss_one (ds_raise rfl (takes_of rfl rfl rfl rfl) TX.own (fun _ _ h => h) (by rfl))) ds_nil)
    (dss_cons (ds_setDc2 (i := 2) [("person", 3), ("thing", 4)] [4] rfl sc_ahead.nd rfl rfl (swd_true rfl rfl (by rfl) (by rfl)) (di_rng1 (by rfl) T.z_range (da_cons (de_callB rc_len call_len_seq (by rfl) T.z_len bt_len (da_cons (de_var (pv 0)) da_nil)) da_nil)) (by kernel_rfl) (by decide) (fun _ _ _ _ _ => (pg_name (i := 3) sc_ahead.nd rfl (by first | exact .inl rfl | exact .inr rfl))) gd_nm (fun _ _ _ _ _ => (di_tup (de_ix (de_var (pv 1)) (de_var (pv 3))))) (fun _ _ _ _ _ => (pg_name (i := 4) sc_ahead.nd rfl (by first | exact .inl rfl | exact .inr rfl))) gd_nm (fun _ _ _ _ _ => (de_var (pv 4))) (fun _ _ _ _ _ => (de_var (pv 3))) (by decide) (by decide))
    (dss_one (ds_ret (de_callTy rc_tuple call_tuple_of (by rfl) T.z_tuple bt_tuple (da_cons (de_usortT rfl (by rfl) T.z_sorted (by rfl) T.z_set hr.units (de_call (c_steps_of T) hr (by decide) (by rfl) (da_cons (de_var (pv 0)) (da_cons (de_var (pv 2)) da_nil)))) da_nil)))))))
end
end DL
end Part_PA6
section Part_PB1
set_option Elab.async false
set_option linter.all false
set_option maxRecDepth 100000
set_option maxHeartbeats 2000000
set_option autoImplicit false
namespace DL
open PySem PySem.Spec PyProof.Rows L2 Evl
/-! ## _law_told(lambda: ..): None where NotMade is raised -/
def TToldN (C : Addr) : (XK → Hp → VK → Prop) → Hp → VK → Prop := fun tl H Q => tl (fun cls d H' => cls = .ref C ∧ d = none ∧ Q .non H') H Q
theorem toldN_gives {X : Cx} {C CH : Addr} {q : Str} {g : Addr} {cdg : Value} (T : Txt X.K X.mg) (TX : TxtX X.K X.mg C CH) :
    LamX.GivesTo X ["_law_work", "e"] "_law_told" (defScope s__law_told) g cdg (defBody s__law_told) "_law_work" q (TToldN C) := by
  intro f c' s H Q tl act hc h
  refine ⟨_, pss_one (ps_try_as (X := (cxOf C8.CX0 X.prog X.w X.K X.mg X.base ["_law_work", "e"] "_law_told" (defScope s__law_told) g cdg X.A X.stack s H C8.E0).nox) (c := .ref CH) (i := 1)
      (tb := fun W D σ H => ∃ Ech : XK, (∀ cls d σ' H', Ech cls d H' → W cls d σ' H') ∧ σ[0]? = some (some (.ref f)) ∧ H c' = some (LamX.CodeO c' q) ∧ tl Ech H D.rt)
      (ts := fun a cls d D σ H => cls = .ref C ∧ d = none ∧ (∃ σ0 : L2.St, σ = σ0.set 1 (some (.ref a))) ∧ D.rt .non H) (Wout := fun _ _ _ _ => False)
      rfl rfl sc__law_told.nd rfl rfl ⟨rfl, by decide, .inl TX.gH⟩ LamX.takes0 (fun W pn xe tk _ => ?_) (fun a oe cls d pn hz hf => ?_)), ?_⟩
  · refine ⟨fun pins s' σ H' D I h' => ?_⟩
    obtain ⟨Ech, hW, h1, h2, h3⟩ := h'
    exact (pss_one (ps_ret (act W pn xe Ech _ _ tk hW))).run pins s' σ H' D I ⟨h1, h2, h3⟩
  · refine ⟨fun pins s' σ H' D I h' => ?_⟩
    obtain ⟨e1, e2, ⟨σ0, e3⟩, e4⟩ := h'
    subst e1 e2 e3
    have hl := I.len
    have l1 : 1 < σ0.length := by
      rw [List.length_set] at hl
      rw [hl]
      exact (by decide : 1 < 2)
    have e3 : (σ0.set 1 (some (V.ref a)))[1]? = some (some (.ref a)) := List.getElem?_set_self l1
    refine PSs.run (X := (cxOf C8.CX0 X.prog X.w X.K X.mg X.base ["_law_work", "e"] "_law_told" (defScope s__law_told) g cdg X.A X.stack s H C8.E0).nox.suite a ((a, oe) :: pn)) (t := tRet (tIf (tB (tCB (rIsE X.K C a) (tCons (tVar 1) (tCons (tC (V.ref C)) tNil)))) (tC V.non) (tC (V.str "other")))) ?key pins s' _ H' D I ?fin
    case key =>
      exact (pss_one (ps_ret (pe_ifExp (pt_val (pe_callB (call_isE (X := (cxOf C8.CX0 X.prog X.w X.K X.mg X.base ["_law_work", "e"] "_law_told" (defScope s__law_told) g cdg X.A X.stack s H C8.E0).nox) (a := a) (oe := oe) (pn := pn) TX.exc hz hf) (by rfl) T.z_isinstance boot_isinstance (pa_cons (pv 1) (pa_cons (pe_glob (v := .ref C) (by rfl) TX.own.gC rfl) pa_nil)))) pe_non pe_str)))
    refine ⟨.ref a, e3, .ref C, .ref C, true, rfl, fun u r => r, TX.kit, true, rfl, ?_⟩
    exact iteT e4
  · refine ⟨_, fun cls d σ' H' hE => ?_, rfl, hc, h⟩
    obtain ⟨e1, e2, e3⟩ := hE
    subst e1 e2
    refine ⟨true, TX.ex, fun _ a _ => ⟨rfl, rfl, ⟨σ', rfl⟩, e3⟩, fun z => nomatch z⟩
end DL
end Part_PB1
section Part_PB2
set_option Elab.async false
set_option linter.all false
set_option maxRecDepth 100000
set_option maxHeartbeats 2000000
set_option autoImplicit false
namespace DL
open PySem PySem.Spec PyProof.Rows L2 Evl
/-! ## the row of draws -/
def RowAt (K : PySem.W.Frag) (a : Addr) (H : Hp) (r : Addr) : Prop := ∃ (ns : List Int) (i s b : Int), H r = some (.lst [.ref a, .int i, .int s, .int b]) ∧ SqL K H a (ns.map V.int) ∧ ns.length ≤ 63 ∧ 0 ≤ i ∧ (0 ≤ s ∧ s < 2147483647)
/-- all but what is at r is as it was -/
def Off (r : Addr) (H H' : Hp) : Prop := ∀ b o, b ≠ r → H b = some o → H' b = some o
theorem sql_off {K : PySem.W.Frag} {H H' : Hp} {a r : Addr} {xs : List V} (n : a ≠ r) (e : Off r H H') (h : SqL K H a xs) : SqL K H' a xs := by
  rcases h with (h | ⟨o, h⟩) | h
  · exact .inl (.inl (e _ _ n h))
  · exact .inl (.inr ⟨o, e _ _ n h⟩)
  · exact .inr h
theorem sql_row {K : PySem.W.Frag} {H H' : Hp} {a r : Addr} {i s b : Int} {ns : List Int} (hr : H r = some (.lst [.ref a, .int i, .int s, .int b])) (e : Off r H H') (h : SqL K H a (ns.map V.int)) : SqL K H' a (ns.map V.int) := by
  rcases h with (h | ⟨o, h⟩) | h
  · refine .inl (.inl (e _ _ (fun z => ?_) h))
    rw [z, hr] at h
    cases ns with
    | nil => cases h
    | cons n ns => cases h
  · refine .inl (.inr ⟨o, e _ _ (fun z => ?_) h⟩)
    rw [z, hr] at h
    cases h
  · exact .inr h
/-- the script stays, the row's own list is as told -/
theorem row_keep {K : PySem.W.Frag} {a r : Addr} {H H' : Hp} {i s b : Int} (h : RowAt K a H r) (e : Off r H H') (hr : H' r = some (.lst [.ref a, .int i, .int s, .int b])) (hi : 0 ≤ i) (hs : 0 ≤ s ∧ s < 2147483647) : RowAt K a H' r := by
  obtain ⟨ns, _, _, _, h1, h3, h4, _⟩ := h
  exact ⟨ns, i, s, b, hr, sql_row h1 e h3, h4, hi, hs⟩
/-- .. when the row's list stays -/
theorem row_same {K : PySem.W.Frag} {a r : Addr} {H H1 H' : Hp} (h : RowAt K a H r) (e : Off r H H') (h1 : RowAt K a H1 r) (hr : H' r = H1 r) : RowAt K a H' r := by
  obtain ⟨_, i, s, b, g1, _, _, g2, g3⟩ := h1
  exact row_keep h e (hr.trans g1) g2 g3
theorem off_upd {H : Hp} {r : Addr} {o : HO} : Off r H (upd H r o) := fun b u n h => by rw [upd_ne n]; exact h
theorem Off.trans {r : Addr} {H H1 H2 : Hp} (a : Off r H H1) (b : Off r H1 H2) : Off r H H2 := fun c o n h => b c o n (a c o n h)
theorem Off.refl {r : Addr} {H : Hp} : Off r H H := fun _ _ _ h => h
theorem off_ex {r : Addr} {H H' : Hp} (h : Ex H H') : Off r H H' := fun b o _ e => h b o e
def spTaken (K : PySem.W.Frag) : Sp := fun vs H Q _ => ∃ (r a : Addr) (m : Int), vs = [.ref r, .int m] ∧ 0 < m ∧ m < 1073741824 ∧ RowAt K a H r ∧ ∀ j H', 0 ≤ j → j < m → Off r H H' → RowAt K a H' r → Q (.int j) H'
section
variable {K : PySem.W.Frag} {σ : L2.St} {H : Hp} {r : Addr} {l : List V} {v : V} {m : Int} {te : TE}
theorem rix {Q : VK} (k : Nat) (h0 : σ[0]? = some (some (.ref r))) (hr : H r = some (.lst l)) (hk : l[k]? = some v) (q : Q v H) : tOp (rIxL K) (tVar 0) (tC (.int (k : Nat))) σ H Q := ⟨.ref r, h0, r, l, (k : Nat), v, rfl, rfl, sq_of hr, atI_nat hk, q⟩
theorem sset {Q : L2.St → Hp → Prop} (k : Nat) (h0 : σ[0]? = some (some (.ref r))) (hr : H r = some (.lst l)) (hk : k < l.length) (q : Q σ (upd H r (.lst (l.set k v)))) : gSub (tVar 0) (tC (.int (k : Nat))) rSetL v σ H Q := by
  refine ⟨.ref r, h0, r, l, (k : Nat), k, rfl, rfl, hr, ?_, q⟩
  unfold ixN
  rw [if_pos (by omega), if_pos (by omega)]
  simp
end
section
variable {P : Program} {w : World} {K : PySem.W.Frag} {mg : Str → Option Value} {base : Heap}
theorem c_taken (T : Txt K mg) : C8.Cal P w K mg base 1 "_law_taken" (spTaken K) [] := by
  obtain ⟨f, fd, F, hm, hb⟩ := T.d__law_taken.ex
  refine ⟨f, fd, _, [], F.ok sc__law_taken (fun vs H Q E h => ?_) (fun cdv A outer s H vs Q E hr h => ?_), hm, F.kp, hb, .nil⟩
  · obtain ⟨r, a, m, rfl, _⟩ := h
    rfl
  · refine ⟨_, pss_cons (ps_if (pt_cmpR op_gt (pe_ix ix_list (pv 0) pe_int (fun _ _ => rfl)) pe_int (nomark _))
        (pss_cons (ps_set (i := 2) sc__law_taken.nd rfl (.inl rfl) (pe_op op_mod (pe_callTy call_int1 (by rfl) T.z_int bt_int (pa_cons (pe_ix ix_list (pv 0) pe_int (fun _ _ => rfl)) pa_nil)) (pv 1)))
        (pss_cons (ps_asg (pe_op op_fdiv (pe_ix ix_list (pv 0) pe_int (fun _ _ => rfl)) (pv 1)) (pg_sub (pv 0) pe_int set_list (by intro _; rfl)))
        (pss_one (ps_ret (pv 2))))) pss_nil)
      (pss_cons (ps_asg (pe_op op_add (pe_ix ix_list (pv 0) pe_int (fun _ _ => rfl)) pe_int) (pg_sub (pv 0) pe_int set_list (by intro _; rfl)))
      (pss_cons (ps_if (pt_cmpR op_gt (pe_ix ix_list (pv 0) pe_int (fun _ _ => rfl)) (pe_callB call_len_seq (by rfl) T.z_len bt_len (pa_cons (pe_ix ix_list (pv 0) pe_int (fun _ _ => rfl)) pa_nil)) (nomark _))
        (pss_cons (ps_asg (pe_op op_mod (pe_callTy call_int1 (by rfl) T.z_int bt_int (pa_cons (pe_op op_add (pe_op op_mul (pe_ix ix_list (pv 0) pe_int (fun _ _ => rfl)) pe_int) pe_int) pa_nil)) pe_int) (pg_sub (pv 0) pe_int set_list (by intro _; rfl)))
        (pss_one (ps_ret (pe_op op_mod (pe_callTy call_int1 (by rfl) T.z_int bt_int (pa_cons (pe_op op_fdiv (pe_ix ix_list (pv 0) pe_int (fun _ _ => rfl)) pe_int) pa_nil)) (pv 1))))) pss_nil)
      (pss_cons (ps_set (i := 3) sc__law_taken.nd rfl (.inl rfl) (pe_ix ix_list (pe_ix ix_list (pv 0) pe_int (fun _ _ => rfl)) (pe_op op_sub (pe_ix ix_list (pv 0) pe_int (fun _ _ => rfl)) pe_int) (fun _ _ => rfl)))
      (pss_cons (ps_asg (pe_op op_mod (pe_callTy call_int1 (by rfl) T.z_int bt_int (pa_cons (pe_op op_add (pe_op op_add (pe_op op_mul (pe_ix ix_list (pv 0) pe_int (fun _ _ => rfl)) pe_int) (pv 3)) pe_int) pa_nil)) pe_int) (pg_sub (pv 0) pe_int set_list (by intro _; rfl)))
      (pss_cons (ps_if (pt_cmpR op_ge (pv 3) (pe_op op_pow pe_int pe_int) (nomark _))
        (pss_one (ps_asg (pe_op op_fdiv (pv 3) (pv 1)) (pg_sub (pv 0) pe_int set_list (by intro _; rfl)))) pss_nil)
      (pss_one (ps_ret (pe_op op_mod (pe_callTy call_int1 (by rfl) T.z_int bt_int (pa_cons (pv 3) pa_nil)) (pv 1))))))))), ?_⟩
    obtain ⟨r, a, m, rfl, hm0, hm1, ⟨ns, i, sd, b, hr0, hS, hl, hi, hs0, hs1⟩, q⟩ := h
    refine rix (v := .int b) 3 rfl hr0 rfl ?_
    refine ⟨b, 0, rfl, rfl, _, rfl, ?_⟩
    by_cases hb0 : 0 < b
    · rw [decide_eq_true hb0]
      refine iteT ?_
      refine rix (v := .int b) 3 rfl hr0 rfl ?_
      refine .inl ⟨b, rfl, .int m, rfl, b, m, rfl, rfl, hm0, ?_⟩
      refine rix (v := .int b) 3 rfl hr0 rfl ?_
      refine ⟨.int m, rfl, b, m, rfl, rfl, ⟨hm0, hm1⟩, ?_⟩
      refine sset 3 rfl hr0 (by decide : 3 < 4) ?_
      exact ⟨.int (b % m), rfl, q _ _ (Int.emod_nonneg _ (by omega)) (Int.emod_lt_of_pos _ hm0) off_upd ⟨ns, i, sd, b / m, upd_same, sql_row hr0 off_upd hS, hl, hi, hs0, hs1⟩⟩
    · rw [decide_eq_false hb0]
      refine iteF ?_
      refine rix (v := .int i) 1 rfl hr0 rfl ?_
      refine ⟨i, 1, rfl, rfl, ?_⟩
      refine sset 1 rfl hr0 (by decide : 1 < 4) ?_
      have o1 : Off r H (upd H r (.lst [.ref a, .int (i + 1), .int sd, .int b])) := off_upd
      have e1 : upd H r (.lst [.ref a, .int (i + 1), .int sd, .int b]) r = some (.lst [.ref a, .int (i + 1), .int sd, .int b]) := upd_same
      show tSeq _ _ _ _ (upd H r (.lst [.ref a, .int (i + 1), .int sd, .int b]))
      generalize upd H r (.lst [.ref a, .int (i + 1), .int sd, .int b]) = H1 at o1 e1 ⊢
      have S1 := sql_row hr0 o1 hS
      refine rix (v := .int (i + 1)) 1 rfl e1 rfl ?_
      refine rix (v := .ref a) 0 rfl e1 rfl ?_
      refine ⟨a, ns.map V.int, rfl, .inl S1, i + 1, ((ns.map V.int).length : Nat), rfl, rfl, _, rfl, ?_⟩
      rw [List.length_map]
      by_cases hin : ((ns.length : Nat) : Int) < i + 1
      · rw [decide_eq_true hin]
        refine iteT ?_
        refine rix (v := .int sd) 2 rfl e1 rfl ?_
        refine ⟨sd, 48271, rfl, rfl, .inl ⟨by omega, by omega⟩, sd * 48271, 11, rfl, rfl, .inl ⟨_, rfl, _, 2147483647, rfl, rfl, (by decide : (0 : Int) < 2147483647), ?_⟩⟩
        refine sset 2 rfl e1 (by decide : 2 < 4) ?_
        have n1 : 0 ≤ (sd * 48271 + 11) % 2147483647 := Int.emod_nonneg _ (by decide)
        have n2 : (sd * 48271 + 11) % 2147483647 < 2147483647 := Int.emod_lt_of_pos _ (by decide)
        refine rix (v := .int ((sd * 48271 + 11) % 2147483647)) 2 rfl upd_same rfl ?_
        refine ⟨_, 7, rfl, rfl, ⟨by decide, by decide⟩, .inl ⟨_, rfl, .int m, rfl, _, m, rfl, rfl, hm0, ?_⟩⟩
        exact q _ _ (Int.emod_nonneg _ (by omega)) (Int.emod_lt_of_pos _ hm0) (o1.trans off_upd) ⟨ns, i + 1, _, b, upd_same, sql_row e1 off_upd S1, hl, by omega, n1, n2⟩
      · rw [decide_eq_false hin]
        refine iteF ?_
        have hlt : i.toNat < ns.length := by omega
        refine rix (v := .ref a) 0 rfl e1 rfl ?_
        refine rix (v := .int (i + 1)) 1 rfl e1 rfl ?_
        refine ⟨i + 1, 1, rfl, rfl, a, ns.map V.int, i + 1 - 1, .int ns[i.toNat], rfl, rfl, S1, ?_, ?_⟩
        · have e : i + 1 - 1 = ((i.toNat : Nat) : Int) := by omega
          rw [e]
          refine atI_nat ?_
          rw [List.getElem?_map, List.getElem?_eq_getElem hlt]
          rfl
        generalize ns[i.toNat] = c
        refine rix (v := .int sd) 2 rfl e1 rfl ?_
        refine ⟨sd, 48271, rfl, rfl, .inl ⟨by omega, by omega⟩, .int c, rfl, sd * 48271, c, rfl, rfl, sd * 48271 + c, 11, rfl, rfl, .inl ⟨_, rfl, _, 2147483647, rfl, rfl, (by decide : (0 : Int) < 2147483647), ?_⟩⟩
        refine sset 2 rfl e1 (by decide : 2 < 4) ?_
        have n1 : 0 ≤ (sd * 48271 + c + 11) % 2147483647 := Int.emod_nonneg _ (by decide)
        have n2 : (sd * 48271 + c + 11) % 2147483647 < 2147483647 := Int.emod_lt_of_pos _ (by decide)
        have o2 := o1.trans (off_upd (H := H1) (r := r) (o := .lst [.ref a, .int (i + 1), .int ((sd * 48271 + c + 11) % 2147483647), .int b]))
        have e2 : upd H1 r (.lst [.ref a, .int (i + 1), .int ((sd * 48271 + c + 11) % 2147483647), .int b]) r = some (.lst [.ref a, .int (i + 1), .int ((sd * 48271 + c + 11) % 2147483647), .int b]) := upd_same
        show tSeq _ _ _ _ (upd H1 r (.lst [.ref a, .int (i + 1), .int ((sd * 48271 + c + 11) % 2147483647), .int b]))
        generalize upd H1 r (.lst [.ref a, .int (i + 1), .int ((sd * 48271 + c + 11) % 2147483647), .int b]) = H2 at o2 e2 ⊢
        have S2 := sql_row hr0 o2 hS
        refine ⟨.int c, rfl, 10, 18, rfl, rfl, ⟨by decide, by decide, by decide⟩, c, 10 ^ 18, rfl, rfl, _, rfl, ?_⟩
        by_cases hbig : (10 : Int) ^ 18 ≤ c
        · refine ite2 (fun _ => ?_) (fun z => absurd (decide_eq_true hbig) z)
          refine ⟨.int c, rfl, .int m, rfl, c, m, rfl, rfl, ⟨hm0, hm1⟩, ?_⟩
          refine sset 3 rfl e2 (by decide : 3 < 4) ?_
          refine ⟨.int c, rfl, .inl ⟨c, rfl, .int m, rfl, c, m, rfl, rfl, hm0, ?_⟩⟩
          exact q _ _ (Int.emod_nonneg _ (by omega)) (Int.emod_lt_of_pos _ hm0) (o2.trans off_upd) ⟨ns, i + 1, _, _, upd_same, sql_row e2 off_upd S2, hl, by omega, n1, n2⟩
        · refine ite2 (fun z => absurd (of_decide_eq_true z) hbig) (fun _ => ?_)
          refine ⟨.int c, rfl, .inl ⟨c, rfl, .int m, rfl, c, m, rfl, rfl, hm0, ?_⟩⟩
          exact q _ _ (Int.emod_nonneg _ (by omega)) (Int.emod_lt_of_pos _ hm0) o2 ⟨ns, i + 1, _, b, e2, S2, hl, by omega, n1, n2⟩
end
end DL
end Part_PB2
section Part_PB3
set_option Elab.async false
set_option linter.all false
set_option maxRecDepth 100000
set_option maxHeartbeats 2000000
set_option autoImplicit false
namespace DL
open PySem PySem.Spec PyProof.Rows L2 Evl
/-- a hand of things below 6 -/
def HandOk (h : List Int) : Prop := h.Pairwise (· < ·) ∧ ∀ x ∈ h, 0 ≤ x ∧ x < 6
structure HandsOk (hs : List (List Int)) : Prop where
  lo : 1 ≤ hs.length
  hi : hs.length ≤ 5
  ok : ∀ h ∈ hs, HandOk h
def spHands (K : PySem.W.Frag) : Sp := fun vs H Q _ => ∃ (r a : Addr), vs = [.ref r, .int 5, .int 6] ∧ RowAt K a H r ∧ ∀ hs v H', HandsOk hs → Off r H H' → RowAt K a H' r → Rep (hid H' [r]) (dHs hs) v → Q v H'
section
variable {P : Program} {w : World} {K : PySem.W.Frag} {mg : Str → Option Value} {base : Heap}
theorem c_hands (T : Txt K mg) : C8.Cal P w K mg base 2 "_law_hands" (spHands K) [] := by
  obtain ⟨f, fd, F, hm, hb⟩ := T.d__law_hands.ex
  refine ⟨f, fd, _, [], F.ok sc__law_hands (fun vs H Q E h => ?_) (fun cdv A outer s H vs Q E hr h => ?_), hm, F.kp, hb, .nil⟩
  · obtain ⟨r, a, rfl, _⟩ := h
    rfl
  · refine ⟨_, pss_cons (ps_par3 (i := 3) (j := 4) (l := 5) rfl sc__law_hands.nd rfl rfl rfl (by decide) (by decide) (by decide) rfl rfl rfl
        (pa_cons (pe_op op_add pe_int (C8.pe_c (c_taken T) hr (by decide) (by rfl) (pa_cons (pv 0) (pa_cons (pv 1) pa_nil)))) (pa_cons (C8.pe_c (c_taken T) hr (by decide) (by rfl) (pa_cons (pv 0) (pa_cons (pe_op op_add (pv 2) pe_int) pa_nil))) (pa_cons (pe_lst pa_nil) pa_nil))) (by rfl))
      (pss_cons (ps_set (i := 6) sc__law_hands.nd rfl (by first | exact .inl rfl | exact .inr rfl) (pe_op op_add pe_int (C8.pe_c (c_taken T) hr (by decide) (by rfl) (pa_cons (pv 0) (pa_cons pe_int pa_nil)))))
      (pss_cons (ps_for PassesOwn.never rfl (pi_range1 (by rfl) T.z_range (pa_cons (pv 3) pa_nil)) (pg_name (i := 7) sc__law_hands.nd rfl (by first | exact .inl rfl | exact .inr rfl))
        (pss_one (ps_expr (pe_bm PySem.F.plainAttrs_list PySem.F.slot_list_append PySem.F.type_list_append mt_append (pv 5) (pa_cons (pe_callTy call_tuple_of (by rfl) T.z_tuple bt_tuple (pa_cons
          (pe_lc (own := [("_law_thing", 8)]) rfl sc__law_hands.nd (pi_range1 (by rfl) T.z_range (pa_cons (pv 4) pa_nil)) (blkOk_by (by kernel_rfl)) (fun _ _ _ _ _ => pg_name (i := 8) sc__law_hands.nd rfl (by first | exact .inl rfl | exact .inr rfl))
            (fun _ _ _ _ _ => pts_one (pt_cmpR op_eq (C8.pe_c (c_taken T) hr (by decide) (by rfl) (pa_cons (pv 0) (pa_cons (pe_op op_add (pv 6) pe_int) pa_nil))) pe_int (nomark _))) (fun _ _ _ _ _ => pv 8)) pa_nil)) pa_nil)))))
      (pss_one (ps_ret (pe_callTy call_tuple_of (by rfl) T.z_tuple bt_tuple (pa_cons (pv 5) pa_nil)))))), ?_⟩
    obtain ⟨r, a, rfl, hrow, q⟩ := h
    -- many, size, found = 1 + taken(row, people), taken(row, kinds + 1), []
    refine ⟨.ref r, rfl, .int 5, rfl, r, a, 5, rfl, by decide, by decide, hrow, fun j1 H1 j10 j11 o1 row1 => ⟨1, j1, rfl, rfl, ?_⟩⟩
    refine ⟨.ref r, rfl, .int 6, rfl, 6, 1, rfl, rfl, r, a, 6 + 1, rfl, by decide, by decide, row1, fun j2 H2 j20 j21 o2 row2 => ⟨Nat.zero_le _, fun p hp => ⟨_, _, _, rfl, ?_⟩⟩⟩
    have npr : p ≠ r := fun z => by
      obtain ⟨_, _, _, _, g, _⟩ := row2
      rw [z, g] at hp
      cases hp
    have o3 : Off r H (upd H2 p (.lst [])) := (o1.trans o2).trans fun b o _ e => by rw [upd_ne (ne_of_none e hp)]; exact e
    have row3 : RowAt K a (upd H2 p (.lst [])) r := row_same hrow o3 row2 (upd_ne npr.symm)
    -- rare = 1 + taken(row, 3)
    refine ⟨.ref r, rfl, r, a, 3, rfl, by decide, by decide, row3, fun j3 H3 j30 j31 o4 row4 => ⟨1, j3, rfl, rfl, ?_⟩⟩
    have p3 : H3 p = some (.lst []) := o4 p _ npr upd_same
    have hpH : H p = none := by
      cases z : H p with
      | none => rfl
      | some u =>
        rw [(o1.trans o2) p u npr z] at hp
        cases hp
    have oP : Off r H H3 := o3.trans o4
    -- the loop
    refine ⟨.int (1 + j1), rfl, 1 + j1, rfl, by omega, by omega, for_range (fun i σ H' => ∃ (x7 : Option V) (hs : List (List Int)) (acc : List V),
      σ = [some (.ref r), some (.int 5), some (.int 6), some (.int (1 + j1)), some (.int j2), some (.ref p), some (.int (1 + j3)), x7, none] ∧ RowAt K a H' r ∧ Off r H H' ∧ H' p = some (.lst acc) ∧ Reps (hid H' [r, p]) (hs.map dRow) acc ∧ hs.length = i ∧ ∀ h ∈ hs, HandOk h) ?_ ?_ ?_⟩
    · exact ⟨none, [], [], rfl, row4, oP, p3, rfl, rfl, fun _ m => nomatch m⟩
    · rintro i σ H4 hi ⟨x7, hs, acc, rfl, row5, o5, p5, rep5, hlen, hok⟩
      refine ⟨.ref p, rfl, .inl ⟨rfl, _, sq_of p5⟩, ?_⟩
      refine ⟨.int j2, rfl, j2, rfl, by omega, by omega, fun Dl hD => ?_⟩
      have nDr : Dl ≠ r := fun z => by
        obtain ⟨_, _, _, _, g, _⟩ := row5
        rw [z, g] at hD
        cases hD
      have nDp : Dl ≠ p := fun z => by
        rw [z, p5] at hD
        cases hD
      refine lc_range (fun k H' => RowAt K a H' r ∧ Off r H4 H' ∧ ∃ xs : List Int, H' Dl = some (.lst (xs.map V.int)) ∧ xs.Pairwise (· < ·) ∧ (∀ x ∈ xs, 0 ≤ x ∧ x < (k : Int)) ∧ xs.length ≤ k) ?_ ?_ ?_
      · have o6 : Off r H4 (upd H4 Dl (.lst [])) := fun b o _ e => by rw [upd_ne (ne_of_none e hD)]; exact e
        exact ⟨row_same row5 o6 row5 (upd_ne nDr.symm), o6, [], upd_same, .nil, (fun _ m => nomatch m), Nat.zero_le _⟩
      · rintro k H5 hk ⟨row6, o6, xs, hDx, up, bd, hxl⟩
        refine ⟨rfl, .ref r, rfl, .int (1 + j3), rfl, 1 + j3, 1, rfl, rfl, r, a, 1 + j3 + 1, rfl, by omega, by omega, row6, fun j H6 j0 j1' o7 row7 => ⟨rfl, _, rfl, ?_⟩⟩
        have hD6 : H6 Dl = some (.lst (xs.map V.int)) := o7 Dl _ nDr hDx
        refine ite2 (fun _ => ?_) (fun _ => ?_)
        · refine ⟨_, rfl, xs.map V.int, hD6, ?_, ?_⟩
          · rw [List.length_map]
            exact cap_lt (by have : cap = 100000 := rfl; omega)
          · have o8 : Off r H4 (upd H6 Dl (.lst (xs.map V.int ++ [.int (0 + (k : Int))]))) := fun b o nb e => by
              rw [upd_ne (ne_of_none e hD)]
              exact (o6.trans o7) b o nb e
            refine ⟨row_same row5 o8 row7 (upd_ne nDr.symm), o8, xs ++ [(k : Int)], ?_, ?_, fun x hx => ?_, by simp; omega⟩
            · rw [upd_same, List.map_append, Int.zero_add]
              rfl
            · refine List.pairwise_append.mpr ⟨up, List.pairwise_singleton _ _, fun x hx y hy => ?_⟩
              rw [List.mem_singleton.mp hy]
              exact (bd x hx).2
            · rcases List.mem_append.mp hx with m | m
              · have := bd x m
                omega
              · rw [List.mem_singleton.mp m]
                omega
        · exact ⟨row7, o6.trans o7, xs, hD6, up, fun x m => by have := bd x m; omega, by omega⟩
      · rintro H5 ⟨row6, o6, xs, hDx, up, bd, hxl⟩
        refine ⟨Dl, xs.map V.int, rfl, .inl ⟨sq_of hDx, fun l hl => ?_⟩⟩
        have nlr : l ≠ r := fun z => by
          obtain ⟨_, _, _, _, g, _⟩ := row6
          rw [z, g] at hl
          cases hl
        have p6 : H5 p = some (.lst acc) := o6 p _ npr p5
        have nlp : l ≠ p := fun z => by
          rw [z, p6] at hl
          cases hl
        refine ⟨p, acc, .ref l, rfl, rfl, by rw [upd_ne nlp.symm]; exact p6, ?_, ?_⟩
        · rw [rep5.len, List.length_map, hlen]
          exact cap_lt (by have : cap = 100000 := rfl; omega)
        · have o9 : Off r H4 (upd H5 l (.tup (xs.map V.int))) := o6.trans fun b o _ e => by rw [upd_ne (ne_of_none e hl)]; exact e
          have o10 : Off r H (upd (upd H5 l (.tup (xs.map V.int))) p (.lst (acc ++ [.ref l]))) := fun b o nb e => by
            have nbp : b ≠ p := fun z => by rw [z, hpH] at e; cases e
            rw [upd_ne nbp]
            exact o9 b o nb (o5 b o nb e)
          refine ⟨_, hs ++ [xs], acc ++ [.ref l], rfl, row_same hrow o10 row6 ?_, o10, upd_same, ?_, by simp [hlen], fun h hh => ?_⟩
          · rw [upd_ne npr.symm, upd_ne nlr.symm]
          · rw [hid_upd (by simp), List.map_append]
            refine Reps.append (rep5.mono fun b o e => ?_) (Reps.one ⟨l, xs.map V.int, rfl, hid_of upd_same (by simp [nlr, nlp]), ints_reps xs⟩)
            have nb : b ∉ [r, p] := fun m => by
              unfold hid at e
              rw [if_pos m] at e
              cases e
            exact hid_of (o9 b o (fun z => nb (by simp [z])) (hid_sub b o e)) nb
          · rcases List.mem_append.mp hh with m | m
            · exact hok h m
            · rw [List.mem_singleton.mp m]
              exact ⟨up, fun x hx => by have := bd x hx; omega⟩
    · rintro σ H4 ⟨x7, hs, acc, rfl, row5, o5, p5, rep5, hlen, hok⟩
      refine ⟨.ref p, rfl, p, acc, rfl, .inl ⟨sq_of p5, fun l hl => ?_⟩⟩
      have nlr : l ≠ r := fun z => by
        obtain ⟨_, _, _, _, g, _⟩ := row5
        rw [z, g] at hl
        cases hl
      have o6 : Off r H4 (upd H4 l (.tup acc)) := fun b o _ e => by rw [upd_ne (ne_of_none e hl)]; exact e
      refine q hs _ _ ⟨by omega, by omega, hok⟩ (o5.trans o6) (row_same row5 o6 row5 (upd_ne nlr.symm)) ⟨l, acc, rfl, hid_of upd_same (by simp [nlr]), rep5.mono fun b o e => ?_⟩
      have nb : b ∉ [r, p] := fun m => by
        unfold hid at e
        rw [if_pos m] at e
        cases e
      exact hid_of (o6 b o (fun z => nb (by simp [z])) (hid_sub b o e)) (fun m => nb (by simp at m; simp [m]))
end
end DL
end Part_PB3
section Part_PB4
set_option Elab.async false
set_option linter.all false
set_option maxRecDepth 100000
set_option maxHeartbeats 2000000
set_option autoImplicit false
namespace DL
open PySem PySem.Spec PyProof.Rows L2 Evl
def spPick (K : PySem.W.Frag) : Sp := fun vs H Q _ => ∃ (r a : Addr) (v : V) (S : List Addr) (ds : List D), vs = [.ref r, v] ∧ RowAt K a H r ∧ r ∈ S ∧ InD S H ∧ Rep (hid H S) (.lst ds) v ∧ 0 < ds.length ∧ ds.length ≤ cap ∧
  ∀ d u H', d ∈ ds → Off r H H' → RowAt K a H' r → Rep (hid H' S) d u → Q u H'
theorem off_hid {r : Addr} {H H' : Hp} {S : List Addr} (hr : r ∈ S) (e : Off r H H') : Ex (hid H S) (hid H' S) := fun b o h => by
  have nb : b ∉ S := fun m => by
    unfold hid at h
    rw [if_pos m] at h
    cases h
  exact hid_of (e b o (fun z => nb (by rw [z]; exact hr)) (hid_sub b o h)) nb
section
variable {P : Program} {w : World} {K : PySem.W.Frag} {mg : Str → Option Value} {base : Heap}
theorem c_pick (T : Txt K mg) : C8.Cal P w K mg base 2 "_law_pick" (spPick K) [] := by
  obtain ⟨f, fd, F, hm, hb⟩ := T.d__law_pick.ex
  refine ⟨f, fd, _, [], F.ok sc__law_pick (fun vs H Q E h => ?_) (fun cdv A outer s H vs Q E hr h => ?_), hm, F.kp, hb, .nil⟩
  · obtain ⟨r, a, v, S, ds, rfl, _⟩ := h
    rfl
  · refine ⟨_, pss_one (ps_ret (pe_ix ix_list (pv 1) (C8.pe_c (c_taken T) hr (by decide) (by rfl) (pa_cons (pv 0) (pa_cons (pe_callB call_len_seq (by rfl) T.z_len bt_len (pa_cons (pv 1) pa_nil)) pa_nil))) (fun _ _ => rfl))), ?_⟩
    obtain ⟨r, a, v, S, ds, rfl, hrow, hrS, hS, ⟨l, xs, rfl, hl, hrep⟩, h0, h1, q⟩ := h
    have hx := hrep.len
    have hcap : cap = 100000 := rfl
    refine ⟨.ref l, rfl, .ref r, rfl, .ref l, rfl, l, xs, rfl, .inl (sq_of (hid_sub l _ hl)), r, a, (xs.length : Nat), rfl, by omega, by omega, hrow, fun j H' j0 j1 o1 row1 => ?_⟩
    have hj : j.toNat < ds.length := by omega
    obtain ⟨u, g1, g2⟩ := hrep.get (List.getElem?_eq_getElem hj)
    have e := off_hid hrS o1
    refine ⟨l, xs, j, u, rfl, rfl, sq_of (hid_sub l _ (e l _ hl)), ?_, q _ u H' (List.getElem_mem hj) o1 row1 (g2.mono e)⟩
    have ej : j = ((j.toNat : Nat) : Int) := by omega
    rw [ej]
    exact atI_nat g1
end
end DL
end Part_PB4
section Part_PB5
set_option Elab.async false
set_option linter.all false
set_option maxRecDepth 100000
set_option maxHeartbeats 2000000
set_option autoImplicit false
namespace DL
open PySem PySem.Spec PyProof.Rows L2 Evl
def thingsG : List D → Option D
  | [.tup ds] => (rowsOf ds).bind fun hs => if hs.flatten.length ≤ cap then some (.lst ((usort hs.flatten).map .int)) else none
  | _ => none
def kt (ks : List Int) : List (Key × V) := ks.map fun k => ((Sum.inl k : Key), V.bl true)
theorem kt_put (ks : List Int) (x : Int) : putK (kt ks) (Sum.inl x : Key) (V.bl true) = if x ∈ ks then kt ks else kt (ks ++ [x]) := by
  have ha : ((kt ks).any fun kv => decide (kv.1 = (Sum.inl x : Key))) = decide (x ∈ ks) := by
    unfold kt
    rw [List.any_map, Bool.eq_iff_iff, List.any_eq_true, decide_eq_true_eq]
    constructor
    · rintro ⟨k, m, e⟩
      have e' : (Sum.inl k : Key) = Sum.inl x := of_decide_eq_true e
      rw [← Sum.inl.inj e']
      exact m
    · exact fun m => ⟨x, m, decide_eq_true rfl⟩
  unfold putK
  rw [ha]
  by_cases h : x ∈ ks
  · rw [if_pos (decide_eq_true h), if_pos h]
    unfold kt
    rw [List.map_map]
    refine List.map_congr_left fun k _ => ?_
    show (if (Sum.inl k : Key) = Sum.inl x then ((Sum.inl k : Key), V.bl true) else ((Sum.inl k : Key), V.bl true)) = _
    split <;> rfl
  · rw [if_neg (fun z => h (of_decide_eq_true z)), if_neg h]
    unfold kt
    rw [List.map_append]
    rfl
theorem kt_step {ks pre : List Int} {x : Int} (hn : ks.Nodup) (hm : ∀ k, k ∈ ks ↔ k ∈ pre) (hl : ks.length ≤ pre.length) : ∃ ks', putK (kt ks) (Sum.inl x : Key) (V.bl true) = kt ks' ∧ ks'.Nodup ∧ (∀ k, k ∈ ks' ↔ k ∈ pre ++ [x]) ∧ ks'.length ≤ (pre ++ [x]).length := by
  rw [kt_put]
  by_cases h : x ∈ ks
  · rw [if_pos h]
    refine ⟨ks, rfl, hn, fun k => ?_, by rw [List.length_append]; omega⟩
    rw [List.mem_append, List.mem_singleton, ← hm k]
    exact ⟨.inl, fun z => z.elim id fun e => by rw [e]; exact h⟩
  · rw [if_neg h]
    refine ⟨ks ++ [x], rfl, ?_, fun k => ?_, by rw [List.length_append, List.length_append]; exact Nat.add_le_add_right hl 1⟩
    · rw [List.nodup_append]
      exact ⟨hn, by simp, fun a ha b hb e => h (by rw [← List.mem_singleton.mp hb, ← e]; exact ha)⟩
    · rw [List.mem_append, List.mem_append, hm k]
section
variable {P : Program} {w : World} {K : PySem.W.Frag} {mg : Str → Option Value} {base : Heap}
theorem c_things (T : Txt K mg) : C8.Cal P w K mg base 1 "_law_things" (spD 1 thingsG) [] := by
  obtain ⟨f, fd, F, hm, hb⟩ := T.d__law_things.ex
  refine ⟨f, fd, _, [], F.ok sc__law_things (fun vs H Q E h => ?_) (fun cdv A outer s H vs Q E hr h => ?_), hm, F.kp, hb, .nil⟩
  · obtain ⟨S, ds, d, h1, h2, h3, _⟩ := h
    rw [h2.len]
    exact h3
  · refine ⟨_, pss_cons (ps_set (i := 1) sc__law_things.nd rfl (.inl rfl) pe_dnewK)
      (pss_cons (ps_for PassesOwn.never rfl (pi_tup (pv 0)) (pg_name (i := 2) sc__law_things.nd rfl (.inl rfl)) (pss_one (ps_for PassesOwn.never rfl (pi_tup (pv 2)) (pg_name (i := 3) sc__law_things.nd rfl (.inl rfl))
        (pss_one (ps_asg pe_bl (pg_sub (pv 1) (pv 3) (set_dict (hu_of hr)) (by intro _; rfl)))))))
      (pss_one (ps_ret (pe_callB cr_sortedI (by rfl) T.z_sorted bt_sorted (pa_cons (pe_callTy (call_listD rfl) (by rfl) T.z_list bt_list (pa_cons (pv 1) pa_nil)) pa_nil))))), ?_⟩
    obtain ⟨S, ds, dd, hS, hreps, hlen, hg, q⟩ := h
    match ds, hreps, hg with
    | [.tup es], hreps, hg =>
      obtain ⟨v, r0, hv, ⟨h, xs, hx, hh, hrows⟩, hr0⟩ := hreps
      cases (show r0 = [] from hr0)
      subst hv hx
      unfold thingsG at hg
      cases q1 : rowsOf es with
      | none => simp [q1] at hg
      | some hs =>
        simp only [q1, Option.bind_some] at hg
        split at hg
        · rename_i hcap
          cases hg
          have ee := rowsOf_eq q1
          subst ee
          have hcapv : cap = 100000 := rfl
          refine fun d hd => ?_
          have o0 : Off d H (upd H d (.dK [])) := off_upd
          have xh : xs.length = hs.length := by rw [hrows.len, List.length_map]
          have st : ∀ {H' : Hp}, Off d H H' → ∀ b o, hid H S b = some o → H' b = some o := fun e b o z => e b o (ne_of_none (hid_sub b o z) hd) (hid_sub b o z)
          refine ⟨.ref h, rfl, h, rfl, ⟨xs, st_of (st o0 _ _ hh)⟩, for_tup (xs := xs) (fun i σ H' => ∃ (x2 x3 : Option V) (ks : List Int), σ = [some (.ref h), some (.ref d), x2, x3] ∧ Off d H H' ∧ H' d = some (.dK (kt ks)) ∧ ks.Nodup ∧ (∀ k, k ∈ ks ↔ k ∈ (hs.take i).flatten) ∧ ks.length ≤ (hs.take i).flatten.length) ?_ ?_ ?_ ?_⟩
          · exact ⟨none, none, [], rfl, o0, upd_same, .nil, fun k => by simp, Nat.zero_le _⟩
          · rintro i σ H' _ ⟨x2, x3, ks, rfl, o1, hk, _⟩
            exact st_of (st o1 _ _ hh)
          · rintro i x σ H' hi ⟨x2, x3, ks, rfl, o1, hk, nd, hmem, hkl⟩
            obtain ⟨d', g1, g2⟩ := hrows.get' hi
            rw [List.getElem?_map] at g1
            cases qi : hs[i]? with
            | none => simp [qi] at g1
            | some row =>
              simp only [qi, Option.map_some, Option.some.injEq] at g1
              subst g1
              obtain ⟨t, ys, hv, ht, hys⟩ := g2
              cases reps_ints hys
              subst hv
              have tk : (hs.take (i + 1)).flatten = (hs.take i).flatten ++ row := by
                rw [List.take_add_one, qi, List.flatten_append]
                simp
              have tl : (hs.take (i + 1)).flatten.length ≤ hs.flatten.length := by
                have e := congrArg List.flatten (List.take_append_drop (i + 1) hs)
                rw [List.flatten_append] at e
                have e2 := congrArg List.length e
                rw [List.length_append] at e2
                omega
              refine ⟨.ref t, rfl, t, rfl, ⟨row.map V.int, st_of (st o1 _ _ ht)⟩, for_tup (xs := row.map V.int) (fun j σ H' => ∃ (x3 : Option V) (ks : List Int), σ = [some (.ref h), some (.ref d), some (.ref t), x3] ∧ Off d H H' ∧ H' d = some (.dK (kt ks)) ∧ ks.Nodup ∧ (∀ k, k ∈ ks ↔ k ∈ (hs.take i).flatten ++ row.take j) ∧ ks.length ≤ ((hs.take i).flatten ++ row.take j).length) ?_ ?_ ?_ ?_⟩
              · exact ⟨x3, ks, rfl, o1, hk, nd, fun k => by rw [hmem k, List.take_zero, List.append_nil], by rw [List.take_zero, List.append_nil]; exact hkl⟩
              · rintro j σ H'' _ ⟨y3, ks', rfl, o2, _⟩
                exact st_of (st o2 _ _ ht)
              · rintro j y σ H'' hj ⟨y3, ks', rfl, o2, hk2, nd2, hmem2, hkl2⟩
                rw [List.getElem?_map] at hj
                cases qj : row[j]? with
                | none => simp [qj] at hj
                | some n =>
                  simp only [qj, Option.map_some, Option.some.injEq] at hj
                  subst hj
                  have tk2 : (hs.take i).flatten ++ row.take (j + 1) = (hs.take i).flatten ++ row.take j ++ [n] := by
                    rw [List.take_add_one, qj, List.append_assoc]
                    rfl
                  obtain ⟨ks3, e1, e2, e3, e4⟩ := kt_step (x := n) nd2 hmem2 hkl2
                  refine ⟨.ref d, rfl, .int n, rfl, d, upd H'' d (.dK (putK (kt ks') (Sum.inl n : Key) (V.bl true))), rfl, .inl ⟨kt ks', Sum.inl n, hk2, rfl, ?_, rfl⟩, ?_⟩
                  · unfold kt
                    rw [List.length_map]
                    refine cap_lt (Nat.le_trans hkl2 (Nat.le_trans ?_ hcap))
                    refine Nat.le_trans ?_ tl
                    rw [tk, List.length_append, List.length_append, List.length_take]
                    omega
                  · rw [e1]
                    exact ⟨_, ks3, rfl, o2.trans off_upd, upd_same, e2, by rw [tk2]; exact e3, by rw [tk2]; exact e4⟩
              · rintro σ H'' ⟨y3, ks', rfl, o2, hk2, nd2, hmem2, hkl2⟩
                rw [List.length_map, List.take_length] at hmem2 hkl2
                exact ⟨_, _, ks', rfl, o2, hk2, nd2, by rw [tk]; exact hmem2, by rw [tk]; exact hkl2⟩
          · rintro σ H' ⟨x2, x3, ks, rfl, o1, hk, nd, hmem, hkl⟩
            rw [xh, List.take_length] at hmem hkl
            have ek : (kt ks).map (fun kv => kV kv.1) = ks.map V.int := by
              unfold kt
              rw [List.map_map]
              rfl
            refine ⟨.ref d, rfl, d, kt ks, rfl, .inl hk, fun p hp => ⟨p, ks, rfl, ?_, fun ns' p' pm up hp' => ?_⟩⟩
            · rw [ek]
              exact sq_of upd_same
            · have nd' : ns'.Nodup := pm.nodup_iff.mpr nd
              have lt' : ns'.Pairwise (· < ·) := (up.and nd').imp fun {x y} z => by
                have := z.1
                have := z.2
                omega
              have en : ns' = usort hs.flatten := lt_uniq (fun k => by rw [pm.mem_iff, hmem, usort_mem]) lt' (usort_lt _)
              subst en
              have o2 : Off d H' (upd H' p (.lst ((kt ks).map fun kv => kV kv.1))) := fun b o _ e => by rw [upd_ne (ne_of_none e hp)]; exact e
              have ex : Ex H (upd (upd H' p (.lst ((kt ks).map fun kv => kV kv.1))) p' (.lst ((usort hs.flatten).map V.int))) := fun b o e => by
                have nbd : b ≠ d := ne_of_none e hd
                have e2 := (o1.trans o2) b o nbd e
                rw [upd_ne (ne_of_none e2 hp')]
                exact e2
              have hp'S : p' ∉ S := fun m => hS p' m (by
                cases z : H p' with
                | none => rfl
                | some u =>
                  rw [(o1.trans o2) p' u (ne_of_none z hd) z] at hp'
                  cases hp')
              exact q _ _ ex ⟨p', _, rfl, hid_of upd_same hp'S, ints_reps _⟩
        · cases hg
end
end DL
end Part_PB5
section Part_PB6
set_option Elab.async false
set_option linter.all false
set_option maxRecDepth 100000
set_option maxHeartbeats 2000000
set_option autoImplicit false
namespace DL
open PySem PySem.Spec PyProof.Rows L2 Evl
section
variable {P : Program} {w : World} {K : PySem.W.Frag} {mg : Str → Option Value} {base : Heap}
def isNG : D → D → Option D := fun x y => match x, y with
  | .non, .non => some (.bl true)
  | _, .non => some (.bl false)
  | _, _ => none
theorem rd_isN : RD rIsN isNG := fun S dx dy d vx vy H Q hS h1 h2 hg hq => by
  cases dy with
  | non =>
    cases (show vy = V.non from h2)
    cases dx with
    | non =>
      cases (show vx = V.non from h1)
      cases hg
      exact ⟨rfl, hq _ H (Ex.refl H) rfl⟩
    | bl b =>
      cases (show vx = V.bl b from h1)
      cases hg
      exact ⟨rfl, hq _ H (Ex.refl H) rfl⟩
    | int b =>
      cases (show vx = V.int b from h1)
      cases hg
      exact ⟨rfl, hq _ H (Ex.refl H) rfl⟩
    | lst l =>
      obtain ⟨a, xs, hv, _⟩ := h1
      subst hv
      cases hg
      exact ⟨rfl, hq _ H (Ex.refl H) rfl⟩
    | tup l =>
      obtain ⟨a, xs, hv, _⟩ := h1
      subst hv
      cases hg
      exact ⟨rfl, hq _ H (Ex.refl H) rfl⟩
    | dic l =>
      obtain ⟨a, hv, _⟩ := h1
      subst hv
      cases hg
      exact ⟨rfl, hq _ H (Ex.refl H) rfl⟩
    | adr a o =>
      obtain ⟨hv, _⟩ := h1
      subst hv
      cases hg
      exact ⟨rfl, hq _ H (Ex.refl H) rfl⟩
  | _ => cases dx <;> cases hg
/-! ### _law_alike -/
def F__law_alike (g : List D → Option D) : ES → Option Out := (seqF (ifF (asB (isiTE ["tuple", "list"] (vE 1))) (seqF (ifF (orB (notB (asB (isiTE ["tuple", "list"] (vE 0)))) (asB (o2 neG (isiE "list" (vE 0)) (isiE "list" (vE 1))))) (retF (cE (.bl false))) nextF)
  (seqF (ifF (asB (o2 neG (bE lenG (consE (vE 0) nilE)) (bE lenG (consE (vE 1) nilE)))) (retF (cE (.bl false))) nextF)
  (retF (o2 eqG (lcE (rg1E (consE (bE lenG (consE (vE 1) nilE)) nilE)) (.nm 2) (notB (asB (callE 2 g (consE (o2 ixG (vE 0) (vE 2)) (consE (o2 ixG (vE 1) (vE 2)) nilE))))) (vE 2) [2]) (lstE' nilE))))) nextF)
  (seqF (ifF (orB (asB (o2 isNG (vE 1) (cE .non))) (asB (isiE "str" (vE 1)))) (retF (blE (andB (asB (o2 eqG (vE 0) (vE 1))) (asB (o2 eqG (isiE "str" (vE 0)) (isiE "str" (vE 1))))))) nextF)
  (retF (blE (andB (asB (isiE "int" (vE 0))) (asB (blE (andB (asB (o2 eqG (isiE "bool" (vE 0)) (isiE "bool" (vE 1)))) (asB (o2 eqG (vE 0) (vE 1)))))))))))
theorem s1__law_alike (T : Txt K mg) {n : Nat} {g : List D → Option D} (ih : C8.Cal P w K mg base n "_law_alike" (spD 2 g) []) : C8.Cal P w K mg base (n + 1) "_law_alike" (spD 2 (runF 3 (F__law_alike g))) [] := T.d__law_alike.cal (k := n) sc__law_alike fun cdv A outer s H E f hr => by
  exact (dss_cons (ds_if (dt_val (de_isiT (by rfl) T.z_isinstance (de_var (pv 1)) (pe_bltn (by rfl) T.z_tuple bt_tuple rfl) (pe_bltn (by rfl) T.z_list bt_list rfl))) (dss_cons (ds_if (PW.pt (dw_or (dt_not (dt_val (de_isiT (by rfl) T.z_isinstance (de_var (pv 0)) (pe_bltn (by rfl) T.z_tuple bt_tuple rfl) (pe_bltn (by rfl) T.z_list bt_list rfl)))) (dw_or1 (dt_cmp rd_ne (op_neD hr.units) (de_isi (by rfl) T.z_isinstance (de_var (pv 0)) (pe_bltn (by rfl) T.z_list bt_list rfl)) (de_isi (by rfl) T.z_isinstance (de_var (pv 1)) (pe_bltn (by rfl) T.z_list bt_list rfl)) (nomark _))))) (dss_one (ds_ret (de_bl pe_bl))) ds_nil)
    (dss_cons (ds_if (dt_cmp rd_ne (op_neD hr.units) (de_callB rc_len call_len_seq (by rfl) T.z_len bt_len (da_cons (de_var (pv 0)) da_nil)) (de_callB rc_len call_len_seq (by rfl) T.z_len bt_len (da_cons (de_var (pv 1)) da_nil)) (nomark _)) (dss_one (ds_ret (de_bl pe_bl))) ds_nil)
    (dss_one (ds_ret (de_cmp rd_eq (op_eqD hr.units) (de_lc [("_law_k", 2)] rfl sc__law_alike.nd (di_rng1 (by rfl) T.z_range (da_cons (de_callB rc_len call_len_seq (by rfl) T.z_len bt_len (da_cons (de_var (pv 1)) da_nil)) da_nil)) (by kernel_rfl) (fun _ _ _ _ _ => (pg_name (i := 2) sc__law_alike.nd rfl (by first | exact .inl rfl | exact .inr rfl))) gd_nm (bt_one fun _ _ _ _ _ => (dt_not (dt_val (de_call ih hr (Nat.le_refl _) (by rfl) (da_cons (de_ix (de_var (pv 0)) (de_var (pv 2))) (da_cons (de_ix (de_var (pv 1)) (de_var (pv 2))) da_nil)))))) (fun _ _ _ _ _ => (de_var (pv 2))) (by decide)) (de_lst da_nil) (nomark _)))))) ds_nil)
    (dss_cons (ds_if (PW.pt (dw_or (dt_cmp rd_isN op_isN1 (de_var (pv 1)) (de_non pe_non) (nomark _)) (dw_or1 (dt_val (de_isi (by rfl) T.z_isinstance (de_var (pv 1)) (pe_bltn (by rfl) T.z_str bt_str rfl)))))) (dss_one (ds_ret (de_and (de_cmp rd_eq (op_eqD hr.units) (de_var (pv 0)) (de_var (pv 1)) (nomark _)) (de_one (de_cmp rd_eq (op_eqD hr.units) (de_isi (by rfl) T.z_isinstance (de_var (pv 0)) (pe_bltn (by rfl) T.z_str bt_str rfl)) (de_isi (by rfl) T.z_isinstance (de_var (pv 1)) (pe_bltn (by rfl) T.z_str bt_str rfl)) (nomark _)))))) ds_nil)
    (dss_one (ds_ret (de_and (de_isi (by rfl) T.z_isinstance (de_var (pv 0)) (pe_bltn (by rfl) T.z_int bt_int rfl)) (de_and (de_cmp rd_eq (op_eqD hr.units) (de_isi (by rfl) T.z_isinstance (de_var (pv 0)) (pe_bltn (by rfl) T.z_bool bt_bool rfl)) (de_isi (by rfl) T.z_isinstance (de_var (pv 1)) (pe_bltn (by rfl) T.z_bool bt_bool rfl)) (nomark _)) (de_one (de_cmp rd_eq (op_eqD hr.units) (de_var (pv 0)) (de_var (pv 1)) (nomark _)))))))))
def alG : Nat → List D → Option D
  | 0 => fun _ => none
  | n + 1 => runF 3 (F__law_alike (alG n))
theorem c_alike (T : Txt K mg) : ∀ n, C8.Cal P w K mg base n "_law_alike" (spD 2 (alG n)) []
  | 0 => by
    obtain ⟨f, fd, h1, h2, h3⟩ := T.d__law_alike.ex
    exact ⟨f, fd, _, [], ⟨fun vs H Q E ⟨S, ds, d, _, _, _, h, _⟩ => (nomatch h), fun A outer s H args us vs Q E _ _ _ _ ⟨S, ds, d, _, _, _, h, _⟩ => (nomatch h)⟩, h2, h1.kp, h3, .nil⟩
  | n + 1 => s1__law_alike T (c_alike T n)
end
end DL
end Part_PB6
section Part_PM0
set_option Elab.async false
set_option linter.all false
set_option maxRecDepth 100000
set_option maxHeartbeats 2000000
set_option autoImplicit false
namespace DL
open PySem

/-! ## the plain law: what the defs compute -/
abbrev Hand := List Int
abbrev Hands := List Hand
def hat (hs : Hands) (p : Int) : Hand := hs.getD p.toNat []
def peop (hs : Hands) : List Int := (List.range hs.length).map fun i => ((i : Nat) : Int)
def holdM (hs : Hands) (t : Int) : List Int := (peop hs).filter fun p => decide (t ∈ hat hs p)
def thingsM (hs : Hands) : List Int := usort hs.flatten
def callM (hs : Hands) (p : Int) : Hands := hs.set p.toNat ((hat hs p).filter fun t => decide (holdM hs t = [p]))
def doneM (hs : Hands) (o : List Int) : Hands := o.foldl callM hs
def stepO (n : Nat) (fs : List (List Int)) : List (List Int) := fs.flatMap fun piece => (((List.range n).map fun i => ((i : Nat) : Int)).filter fun p => decide (p ∉ piece)).map fun p => piece ++ [p]
def iterO (n : Nat) : Nat → List (List Int)
  | 0 => [[]]
  | k + 1 => stepO n (iterO n k)
def ordersM (n : Nat) : List (List Int) := iterO n n
def addK (ks : List Hands) (k : Hands) : List Hands := if k ∈ ks then ks else ks ++ [k]
def keysM (hs : Hands) : List Hands := ((ordersM hs.length).map (doneM hs)).foldl addK []
def dueM (hs : Hands) : List Hands := (keysM hs).mergeSort leH
def told1 (e : Hands) : List (Int × Int) := (thingsM e).map fun t => (t, (holdM e t).headD 0)
def stepsM (hs : Hands) (tk : List (Int × Int)) : List (Int × Int) := tk.flatMap fun q => ((holdM hs q.1).filter fun p => decide (p ≠ q.2)).map fun p => (p, q.2)
def otherM (hs : Hands) (aw : List Int) : Hands := (peop hs).map fun p => (thingsM hs).filter fun t => decide (aw.getD t.toNat 0 = p)
end DL
end Part_PM0
section Part_PM1
set_option Elab.async false
set_option linter.all false
set_option maxRecDepth 100000
set_option maxHeartbeats 2000000
set_option autoImplicit false
namespace DL
open PySem

/-! ## how mirrors are evaluated -/
section
variable {t : Tg} {c : En → Option Bool} {f : En → Option D} {ρ : En}
theorem compD_eq {α : Type} (enc : α → D) (ρx : α → En) (p : α → Bool) (g : α → D) : ∀ xs : List α, (∀ x ∈ xs, bdT t (enc x) ρ = some (ρx x) ∧ c (ρx x) = some (p x) ∧ (p x = true → f (ρx x) = some (g x))) → compD t c f ρ (xs.map enc) = some ((xs.filter p).map g)
  | [], _ => rfl
  | x :: xs, h => by
    obtain ⟨h1, h2, h3⟩ := h x (List.mem_cons_self ..)
    have ih := compD_eq enc ρx p g xs fun y m => h y (List.mem_cons_of_mem _ m)
    simp only [List.map_cons, compD, h1, h2, Option.bind_some, ih]
    cases hp : p x with
    | true => simp [h3 hp, List.filter_cons, hp]
    | false => simp [List.filter_cons, hp]
theorem lcE_eq {α : Type} {fi : En → Option (List D)} {vs : List Nat} (xs : List α) (enc : α → D) (ρx : α → En) (p : α → Bool) (g : α → D) (hi : fi ρ = some (xs.map enc)) (hl : (xs.filter p).length ≤ cap)
    (h : ∀ x ∈ xs, bdT t (enc x) (wipeE ρ vs) = some (ρx x) ∧ c (ρx x) = some (p x) ∧ (p x = true → f (ρx x) = some (g x))) : lcE fi t c f vs ρ = some (.lst ((xs.filter p).map g)) := by
  unfold lcE
  rw [hi]
  simp only [Option.bind_some]
  rw [compD_eq enc ρx p g xs h]
  simp only [Option.bind_some]
  unfold lstG
  rw [if_pos (by rw [List.length_map]; exact hl)]
/-- no test -/
theorem lcE_all {α : Type} {fi : En → Option (List D)} {vs : List Nat} (xs : List α) (enc : α → D) (ρx : α → En) (g : α → D) (hi : fi ρ = some (xs.map enc)) (hl : xs.length ≤ cap)
    (h : ∀ x ∈ xs, bdT t (enc x) (wipeE ρ vs) = some (ρx x) ∧ f (ρx x) = some (g x)) : lcE fi t tyE f vs ρ = some (.lst (xs.map g)) := by
  have e : xs.filter (fun _ => true) = xs := List.filter_eq_self.mpr fun _ _ => rfl
  have := lcE_eq (t := t) (c := tyE) (f := f) (ρ := ρ) (vs := vs) xs enc ρx (fun _ => true) g hi (by rw [e]; exact hl) fun x m => ⟨(h x m).1, rfl, fun _ => (h x m).2⟩
  rw [e] at this
  exact this
end
section
variable {t : Tg} {F : ES → Option Out}
/-- a loop that goes through -/
theorem loopF_inv {α : Type} (enc : α → D) (I : List α → ES → Prop) : ∀ (xs pre : List α) (e : ES), I pre e → (∀ pre x e, x ∈ xs → I pre e → ∃ e1 e2, bdS t (enc x) e = some e1 ∧ F e1 = some (.nx e2) ∧ I (pre ++ [x]) e2) → ∃ e2, loopF t F (xs.map enc) e = some (.nx e2) ∧ I (pre ++ xs) e2
  | [], pre, e, h, _ => ⟨e, rfl, by rw [List.append_nil]; exact h⟩
  | x :: xs, pre, e, h, hs => by
    obtain ⟨e1, e2, h1, h2, h3⟩ := hs pre x e (List.mem_cons_self ..) h
    obtain ⟨e3, h4, h5⟩ := loopF_inv enc I xs (pre ++ [x]) e2 h3 fun pre y e m => hs pre y e (List.mem_cons_of_mem _ m)
    refine ⟨e3, ?_, by rw [List.append_assoc] at h5; exact h5⟩
    simp only [List.map_cons, loopF, h1, h2, Option.bind_some]
    exact h4
end
section
variable {ρ : En} {f fa fb fc : En → Option D} {x y z : D}
theorem cons1 (h : fa ρ = some x) : consE fa nilE ρ = some [x] := by
  simp [consE, nilE, h]
theorem cons2 (h : fa ρ = some x) (k : fb ρ = some y) : consE fa (consE fb nilE) ρ = some [x, y] := by
  simp [consE, nilE, h, k]
theorem cons3 (h : fa ρ = some x) (k : fb ρ = some y) (l : fc ρ = some z) : consE fa (consE fb (consE fc nilE)) ρ = some [x, y, z] := by
  simp [consE, nilE, h, k, l]
theorem rngD_zero (n : Nat) : rngD 0 ((n : Nat) : Int) = (List.range n).map fun i => D.int ((i : Nat) : Int) := by
  unfold rngD
  rw [Int.sub_zero, Int.toNat_natCast]
  refine List.map_congr_left fun i _ => ?_
  show D.int (0 + ((i : Nat) : Int)) = D.int ((i : Nat) : Int)
  rw [Int.zero_add]
theorem tb1 {n : Nat} (hn : n ≤ 100000) : -(2 ^ 62) ≤ ((n : Nat) : Int) := by omega
theorem tb2 {n : Nat} (hn : n ≤ 100000) : ((n : Nat) : Int) < 2 ^ 62 := by omega
theorem rg1_a {g : En → Option (List D)} {j : Int} (h : g ρ = some [.int j]) (h1 : -(2 ^ 62) ≤ j) (h2 : j < 2 ^ 62) : rg1E g ρ = some (rngD 0 j) := by
  unfold rg1E
  rw [h]
  simp only [Option.bind_some]
  rw [if_pos ⟨h1, h2⟩]
theorem rg1_eq {g : En → Option (List D)} {n : Nat} (h : g ρ = some [.int ((n : Nat) : Int)]) (hn : n ≤ 100000) : rg1E g ρ = some ((List.range n).map fun i => D.int ((i : Nat) : Int)) := by
  rw [rg1_a h (tb1 hn) (tb2 hn), rngD_zero]
theorem bE_eq {gd : List D → Option D} {g : En → Option (List D)} {ds : List D} (h : g ρ = some ds) : bE gd g ρ = gd ds := by
  unfold bE
  rw [h]
  rfl
theorem callE_eq {n : Nat} {gd : List D → Option D} {g : En → Option (List D)} {ds : List D} (h : g ρ = some ds) (hl : ds.length = n) : callE n gd g ρ = gd ds := by
  unfold callE
  rw [h]
  show (if ds.length = n then gd ds else none) = _
  rw [if_pos hl]
theorem o2_eq {g : D → D → Option D} (h : fa ρ = some x) (k : fb ρ = some y) : o2 g fa fb ρ = g x y := by
  unfold o2
  rw [h, k]
  rfl
theorem asB_eq {b : Bool} (h : f ρ = some (.bl b)) : asB f ρ = some b := by
  unfold asB
  rw [h]
  rfl
theorem len_of {l : D} {ds : List D} (h : itemsD l = some ds) : lenG [l] = some (.int (ds.length : Nat)) := by
  cases l <;> simp [itemsD] at h <;> simp [lenG, h]
theorem ix_of {l : D} {ds : List D} {i : Nat} {d : D} (h : itemsD l = some ds) (k : ds[i]? = some d) : ixG l (.int ((i : Nat) : Int)) = some d := by
  unfold ixG
  rw [h]
  exact L2.atI_nat k
end
section
variable {F G : ES → Option Out} {c : En → Option Bool} {f : En → Option D} {e e' : ES} {ρ : En} {o : Out} {d : D}
theorem seq_nx (h : F e = some (.nx e')) (k : G e' = some o) : seqF F G e = some o := by
  unfold seqF
  rw [h]
  exact k
theorem seq_rt (h : F e = some (.rt d)) : seqF F G e = some (.rt d) := by
  unfold seqF
  rw [h]
  rfl
theorem seq_ex (h : F e = some .ex) : seqF F G e = some .ex := by
  unfold seqF
  rw [h]
  rfl
theorem if_t (h : c ρ = some true) (k : F ⟨none, ρ⟩ = some o) : ifF c F G ⟨none, ρ⟩ = some o := by
  show (c ρ).bind _ = _
  rw [h]
  exact k
theorem if_f (h : c ρ = some false) (k : G ⟨none, ρ⟩ = some o) : ifF c F G ⟨none, ρ⟩ = some o := by
  show (c ρ).bind _ = _
  rw [h]
  exact k
theorem ret_eq {ow : Option Nat} (h : f ρ = some d) : retF f ⟨ow, ρ⟩ = some (.rt d) := by
  show (f ρ).map _ = _
  rw [h]
  rfl
theorem set_eq {i : Nat} (h : f ρ = some d) : setF i f ⟨none, ρ⟩ = some (.nx ⟨none, ρ.set i (some d)⟩) := by
  unfold setF
  rw [if_neg (fun z => nomatch z)]
  show (f ρ).map _ = _
  rw [h]
  rfl
theorem drop_eq (h : f ρ = some d) : dropF f ⟨none, ρ⟩ = some (.nx ⟨none, ρ⟩) := by
  show (f ρ).map _ = _
  rw [h]
  rfl
theorem run_rt {m : Nat} {ds : List D} (h : F ⟨none, ρ⟩ = some (.rt d)) (hs : ρ = ds.map some ++ List.replicate (m - ds.length) none) : runF m F ds = some d := by
  subst hs
  unfold runF
  rw [h]
  rfl
theorem run_nx {m : Nat} {ds : List D} (h : F ⟨none, ρ⟩ = some (.nx e)) (hs : ρ = ds.map some ++ List.replicate (m - ds.length) none) : runF m F ds = some .non := by
  subst hs
  unfold runF
  rw [h]
  rfl
theorem and_t {t u : En → Option Bool} (h : t ρ = some true) : andB t u ρ = u ρ := by
  unfold andB
  rw [h]
  rfl
theorem or_f {t u : En → Option Bool} (h : t ρ = some false) : orB t u ρ = u ρ := by
  unfold orB
  rw [h]
  rfl
theorem or_t {t u : En → Option Bool} (h : t ρ = some true) : orB t u ρ = some true := by
  unfold orB
  rw [h]
  rfl
theorem not_eq {t : En → Option Bool} {b : Bool} (h : t ρ = some b) : notB t ρ = some (!b) := by
  unfold notB
  rw [h]
  rfl
theorem bl_eq {t : En → Option Bool} {b : Bool} (h : t ρ = some b) : blE t ρ = some (.bl b) := by
  unfold blE
  rw [h]
  rfl
end
section
variable {t : Tg} {F : ES → Option Out}
theorem loopF_inv2 {α : Type} (enc : α → D) (I : List α → ES → Prop) {L : List α} {e : ES} (h0 : I [] e) (hs : ∀ pre x post e, L = pre ++ x :: post → I pre e → ∃ e1 e2, bdS t (enc x) e = some e1 ∧ F e1 = some (.nx e2) ∧ I (pre ++ [x]) e2) : ∃ e2, loopF t F (L.map enc) e = some (.nx e2) ∧ I L e2 := by
  have gen : ∀ (xs pre : List α) (e : ES), L = pre ++ xs → I pre e → ∃ e2, loopF t F (xs.map enc) e = some (.nx e2) ∧ I L e2 := by
    intro xs
    induction xs with
    | nil =>
      intro pre e hL h
      rw [List.append_nil] at hL
      exact ⟨e, rfl, by rw [hL]; exact h⟩
    | cons x xs ih =>
      intro pre e hL h
      obtain ⟨e1, e2, h1, h2, h3⟩ := hs pre x xs e hL h
      obtain ⟨e3, h4, h5⟩ := ih (pre ++ [x]) e2 (by rw [hL, List.append_assoc]; rfl) h3
      refine ⟨e3, ?_, h5⟩
      simp only [List.map_cons, loopF, h1, h2, Option.bind_some]
      exact h4
  exact gen L [] e rfl h0
end
theorem vE_at {i : Nat} {ρ : En} {d : D} (h : ρ[i]? = some (some d)) : vE i ρ = some d := by
  unfold vE
  rw [h]
  rfl
/-! ### data in general -/
theorem enD_rows (hs : Hands) : enD (hs.map dRow) = (peop hs).map fun p => D.tup [.int p, dRow (hat hs p)] := by
  refine List.ext_getElem? fun i => ?_
  unfold enD peop
  rw [List.map_map, List.getElem?_map, List.length_map]
  by_cases hi : i < hs.length
  · rw [List.getElem?_range hi, List.getElem?_zipWith, List.getElem?_range hi, List.getElem?_map, List.getElem?_eq_getElem hi]
    have e : hat hs ((i : Nat) : Int) = hs[i] := by
      unfold hat
      rw [Int.toNat_natCast, List.getD_eq_getElem?_getD, List.getElem?_eq_getElem hi]
      rfl
    show some (D.tup [.int ((i : Nat) : Int), dRow hs[i]]) = some (D.tup [.int ((i : Nat) : Int), dRow (hat hs ((i : Nat) : Int))])
    rw [e]
  · rw [List.getElem?_eq_none (by rw [List.length_zipWith, List.length_range, List.length_map]; omega), List.getElem?_eq_none (by rw [List.length_range]; omega)]
    rfl
theorem rng_peop (hs : Hands) : rngD 0 (hs.length : Nat) = (peop hs).map D.int := by
  unfold rngD peop
  rw [List.map_map]
  rw [Int.sub_zero, Int.toNat_natCast]
  refine List.map_congr_left fun i _ => ?_
  show D.int (0 + ((i : Nat) : Int)) = D.int ((i : Nat) : Int)
  rw [Int.zero_add]
theorem rngD_nat (n : Nat) : rngD 0 (n : Int) = ((List.range n).map fun i => ((i : Nat) : Int)).map D.int := by
  unfold rngD
  rw [List.map_map]
  rw [Int.sub_zero, Int.toNat_natCast]
  refine List.map_congr_left fun i _ => ?_
  show D.int (0 + ((i : Nat) : Int)) = D.int ((i : Nat) : Int)
  rw [Int.zero_add]
theorem peop_mem {hs : Hands} {p : Int} : p ∈ peop hs ↔ 0 ≤ p ∧ p < hs.length := by
  unfold peop
  rw [List.mem_map]
  constructor
  · rintro ⟨i, m, e⟩
    rw [List.mem_range] at m
    omega
  · rintro ⟨a, b⟩
    exact ⟨p.toNat, List.mem_range.mpr (by omega), by omega⟩
theorem peop_len (hs : Hands) : (peop hs).length = hs.length := by
  unfold peop
  rw [List.length_map, List.length_range]
theorem deq_ints : ∀ a b : List Int, deqs (a.map D.int) (b.map D.int) = decide (a = b)
  | [], [] => by simp [deqs]
  | [], _ :: _ => by simp [deqs]
  | _ :: _, [] => by simp [deqs]
  | x :: a, y :: b => by
    simp only [List.map_cons, deqs, deq, deq_ints a b]
    by_cases h1 : x = y <;> by_cases h2 : a = b <;> simp [h1, h2]
end DL
end Part_PM1
section Part_PM2
set_option Elab.async false
set_option linter.all false
set_option maxRecDepth 100000
set_option maxHeartbeats 2000000
set_option autoImplicit false
namespace DL
open PySem L2

/-! ## _law_alike answers True on equal data -/
theorem k1 : kitT "list" ["tuple", "list"] = some true := by decide +kernel
theorem k2 : kitT "tuple" ["tuple", "list"] = some true := by decide +kernel
theorem k3 : kitT "int" ["tuple", "list"] = some false := by decide +kernel
theorem k4 : kitT "bool" ["tuple", "list"] = some false := by decide +kernel
theorem k5 : kitT "NoneType" ["tuple", "list"] = some false := by decide +kernel
theorem k6 : kitB "list" "list" = some true := by decide +kernel
theorem k7 : kitB "tuple" "list" = some false := by decide +kernel
theorem k8 : kitB "int" "str" = some false := by decide +kernel
theorem k9 : kitB "bool" "str" = some false := by decide +kernel
theorem k10 : kitB "NoneType" "str" = some false := by decide +kernel
theorem k11 : kitB "int" "int" = some true := by decide +kernel
theorem k12 : kitB "bool" "int" = some true := by decide +kernel
theorem k13 : kitB "int" "bool" = some false := by decide +kernel
theorem k14 : kitB "bool" "bool" = some true := by decide +kernel
theorem k15 : kitB "tuple" "tuple" = some true := by decide +kernel
theorem atI_at {α : Type} {xs : List α} {i : Nat} {v : α} (h : xs[i]? = some v) : atI xs ((i : Nat) : Int) = some v := atI_nat h
mutual
/-- small data: no dict within, no deeper than n, no list longer than the cap -/
def dSm : Nat → D → Bool
  | _, .non => true
  | _, .bl _ => true
  | _, .int _ => true
  | 0, .lst _ => false
  | 0, .tup _ => false
  | n + 1, .lst ds => decide (ds.length ≤ cap) && dSms n ds
  | n + 1, .tup ds => decide (ds.length ≤ cap) && dSms n ds
  | _, .dic _ => false
  | _, .adr _ _ => false
def dSms : Nat → List D → Bool
  | _, [] => true
  | n, d :: ds => dSm n d && dSms n ds
end
theorem dSms_mem : ∀ {n : Nat} {ds : List D} {d : D}, dSms n ds = true → d ∈ ds → dSm n d = true
  | n, x :: ds, d, h, m => by
    have h' : dSm n x = true ∧ dSms n ds = true := by simpa [dSms] using h
    rcases List.mem_cons.mp m with e | m
    · rw [e]
      exact h'.1
    · exact dSms_mem h'.2 m
theorem dSms_of {n : Nat} : ∀ {ds : List D}, (∀ d ∈ ds, dSm n d = true) → dSms n ds = true
  | [], _ => by simp [dSms]
  | d :: ds, h => by simp [dSms, h d (List.mem_cons_self ..), dSms_of fun x m => h x (List.mem_cons_of_mem _ m)]
theorem al_inner {g : List D → Option D} {ds : List D} {l : D} (hl : itemsD l = some ds) (hlen : ds.length ≤ cap) (hg : ∀ d ∈ ds, g [d, d] = some (.bl true)) :
    lcE (rg1E (consE (bE lenG (consE (vE 1) nilE)) nilE)) (.nm 2) (notB (asB (callE 2 g (consE (o2 ixG (vE 0) (vE 2)) (consE (o2 ixG (vE 1) (vE 2)) nilE))))) (vE 2) [2] [some l, some l, none] = some (.lst []) := by
  have hc : cap = 100000 := rfl
  have e := lcE_eq (t := .nm 2) (c := notB (asB (callE 2 g (consE (o2 ixG (vE 0) (vE 2)) (consE (o2 ixG (vE 1) (vE 2)) nilE))))) (f := vE 2) (ρ := [some l, some l, none]) (vs := [2]) (fi := rg1E (consE (bE lenG (consE (vE 1) nilE)) nilE))
    (List.range ds.length) (fun i => D.int ((i : Nat) : Int)) (fun i => [some l, some l, some (.int ((i : Nat) : Int))]) (fun _ => false) (fun i => D.int ((i : Nat) : Int)) ?_ ?_ ?_
  · rw [e]
    simp
  · exact rg1_eq (cons1 ((bE_eq (cons1 rfl)).trans (len_of hl))) (by have : cap = 100000 := rfl; omega)
  · rw [List.filter_eq_nil_iff.mpr (by simp)]
    exact Nat.zero_le _
  · intro i m
    rw [List.mem_range] at m
    obtain ⟨d, hd⟩ : ∃ d, ds[i]? = some d := ⟨_, List.getElem?_eq_getElem m⟩
    have hm : d ∈ ds := List.mem_of_getElem? hd
    refine ⟨rfl, ?_, fun z => nomatch z⟩
    simp [notB, asB, callE, consE, nilE, o2, vE, ixG, hl, atI_at hd, hg d hm]
theorem al_lst {g : List D → Option D} {ds : List D} (hlen : ds.length ≤ cap) (hg : ∀ d ∈ ds, g [d, d] = some (.bl true)) : runF 3 (F__law_alike g) [.lst ds, .lst ds] = some (.bl true) := by
  have e := al_inner (g := g) (ds := ds) (l := .lst ds) rfl hlen hg
  have e1 : asB (isiTE ["tuple", "list"] (vE 1)) [some (.lst ds), some (.lst ds), none] = some true := by simp [asB, isiTE, vE, isA, tyN, k1]
  have e2 : orB (notB (asB (isiTE ["tuple", "list"] (vE 0)))) (asB (o2 neG (isiE "list" (vE 0)) (isiE "list" (vE 1)))) [some (.lst ds), some (.lst ds), none] = some false := by simp [orB, notB, asB, isiTE, isiE, o2, vE, isA, tyN, k1, k6, neG, dOk, deq]
  have e3 : asB (o2 neG (bE lenG (consE (vE 0) nilE)) (bE lenG (consE (vE 1) nilE))) [some (.lst ds), some (.lst ds), none] = some false := by simp [asB, o2, bE, consE, nilE, vE, lenG, neG, dOk, deq]
  have e4 : lstE' nilE [some (.lst ds), some (.lst ds), none] = some (.lst []) := rfl
  have e5 : eqG (.lst []) (.lst []) = some (.bl true) := by simp [eqG, dOk, dOks, deq, deqs]
  exact run_rt (ρ := [some (.lst ds), some (.lst ds), none]) (seq_rt (if_t e1 (seq_nx (if_f e2 rfl) (seq_nx (if_f e3 rfl) (ret_eq ((o2_eq e e4).trans e5)))))) rfl
theorem al_tup {g : List D → Option D} {ds : List D} (hlen : ds.length ≤ cap) (hg : ∀ d ∈ ds, g [d, d] = some (.bl true)) : runF 3 (F__law_alike g) [.tup ds, .tup ds] = some (.bl true) := by
  have e := al_inner (g := g) (ds := ds) (l := .tup ds) rfl hlen hg
  have e1 : asB (isiTE ["tuple", "list"] (vE 1)) [some (.tup ds), some (.tup ds), none] = some true := by simp [asB, isiTE, vE, isA, tyN, k2]
  have e2 : orB (notB (asB (isiTE ["tuple", "list"] (vE 0)))) (asB (o2 neG (isiE "list" (vE 0)) (isiE "list" (vE 1)))) [some (.tup ds), some (.tup ds), none] = some false := by simp [orB, notB, asB, isiTE, isiE, o2, vE, isA, tyN, k2, k7, neG, dOk, deq]
  have e3 : asB (o2 neG (bE lenG (consE (vE 0) nilE)) (bE lenG (consE (vE 1) nilE))) [some (.tup ds), some (.tup ds), none] = some false := by simp [asB, o2, bE, consE, nilE, vE, lenG, neG, dOk, deq]
  have e4 : lstE' nilE [some (.tup ds), some (.tup ds), none] = some (.lst []) := rfl
  have e5 : eqG (.lst []) (.lst []) = some (.bl true) := by simp [eqG, dOk, dOks, deq, deqs]
  exact run_rt (ρ := [some (.tup ds), some (.tup ds), none]) (seq_rt (if_t e1 (seq_nx (if_f e2 rfl) (seq_nx (if_f e3 rfl) (ret_eq ((o2_eq e e4).trans e5)))))) rfl
theorem al_non {g : List D → Option D} : runF 3 (F__law_alike g) [.non, .non] = some (.bl true) := by
  simp [alG, runF, F__law_alike, seqF, ifF, orB, notB, andB, asB, blE, retF, nextF, isiTE, isiE, o2, cE, vE, ES.view, isA, tyN, k5, k10, isNG, eqG, dOk, deq]
theorem al_bl {g : List D → Option D} {b : Bool} : runF 3 (F__law_alike g) [.bl b, .bl b] = some (.bl true) := by
  simp [alG, runF, F__law_alike, seqF, ifF, orB, notB, andB, asB, blE, retF, nextF, isiTE, isiE, o2, cE, vE, ES.view, isA, tyN, k4, k9, k12, k14, isNG, eqG, dOk, deq]
theorem al_int {g : List D → Option D} {b : Int} : runF 3 (F__law_alike g) [.int b, .int b] = some (.bl true) := by
  simp [alG, runF, F__law_alike, seqF, ifF, orB, notB, andB, asB, blE, retF, nextF, isiTE, isiE, o2, cE, vE, ES.view, isA, tyN, k3, k8, k11, k13, isNG, eqG, dOk, deq]
theorem al_ok (n : Nat) : ∀ d : D, dSm n d = true → alG (n + 1) [d, d] = some (.bl true) := by
  induction n with
  | zero =>
    intro d h
    cases d with
    | non => exact al_non
    | bl b => exact al_bl
    | int b => exact al_int
    | _ => simp [dSm] at h
  | succ n ih =>
    intro d h
    cases d with
    | non => exact al_non
    | bl b => exact al_bl
    | int b => exact al_int
    | lst ds =>
      have h' : ds.length ≤ cap ∧ dSms n ds = true := by
        unfold dSm at h
        exact ⟨of_decide_eq_true ((Bool.and_eq_true _ _).mp h).1, ((Bool.and_eq_true _ _).mp h).2⟩
      exact al_lst h'.1 fun d m => ih d (dSms_mem h'.2 m)
    | tup ds =>
      have h' : ds.length ≤ cap ∧ dSms n ds = true := by
        unfold dSm at h
        exact ⟨of_decide_eq_true ((Bool.and_eq_true _ _).mp h).1, ((Bool.and_eq_true _ _).mp h).2⟩
      exact al_tup h'.1 fun d m => ih d (dSms_mem h'.2 m)
    | _ => simp [dSm] at h
end DL
end Part_PM2
section Part_PC1
set_option Elab.async false
set_option linter.all false
set_option maxRecDepth 100000
set_option maxHeartbeats 4000000
set_option autoImplicit false
namespace DL
open PySem PySem.Spec PyProof.Rows L2 Evl
/-! ## what the law's own body needs -/
open Classical in
noncomputable def inFG (d : Addr) (φ : Hp → Prop) (ks : List Hands) : D → D → Option D := fun x y => match x, y with
  | .tup ds, .adr b ψ => if b = d ∧ ψ = φ then (rowsOf ds).map fun hs => .bl (decide (hs ∈ ks)) else none
  | _, _ => none
def GoodF (P : Program) (w : World) (d : Addr) (φ : Hp → Prop) (ks : List Hands) : Prop := ∀ H, φ H → ∃ xs, H d = some (FO P w d xs) ∧ (∀ y ∈ xs, KOk H y) ∧ xs.map (·.1) = ks.map keyH
theorem atKey_some (xs : List KEn) (k : NestedKey) : (atKey xs k).isSome = decide (k ∈ xs.map (·.1)) := by
  unfold atKey
  rw [Option.isSome_map, Bool.eq_iff_iff, List.find?_isSome, decide_eq_true_eq, List.mem_map]
  constructor
  · rintro ⟨x, m, e⟩
    exact ⟨x, m, of_decide_eq_true e⟩
  · rintro ⟨x, m, e⟩
    exact ⟨x, m, decide_eq_true e⟩
theorem keyH_mem {hs : Hands} {ks : List Hands} : keyH hs ∈ ks.map keyH ↔ hs ∈ ks := by
  rw [List.mem_map]
  constructor
  · rintro ⟨x, m, e⟩
    rw [← keyH_inj e]
    exact m
  · exact fun m => ⟨hs, m, rfl⟩
theorem rd_inF {P : Program} {w : World} {d : Addr} {φ : Hp → Prop} {ks : List Hands} (g : GoodF P w d φ ks) : RD (rFIn P w) (inFG d φ ks) := fun S dx dy dd vx vy H Q hS h1 h2 hg hq => by
  cases dx with
  | tup ds =>
    cases dy with
    | adr b ψ =>
      unfold inFG at hg
      simp only at hg
      split at hg
      · rename_i hb
        obtain ⟨rfl, rfl⟩ := hb
        cases q : rowsOf ds with
        | none => simp [q] at hg
        | some hs =>
          simp only [q, Option.map_some, Option.some.injEq] at hg
          subst hg
          have e := rowsOf_eq q
          subst e
          obtain ⟨xs, x1, x2, x3⟩ := g _ (h2.2 _ (ExN.refl _))
          obtain ⟨a, vs, hv, ha, hr⟩ := h1
          subst hv
          refine ⟨b, xs, hs, a, rfl, h2.1, hid_sub b _ x1, fun y m => (x2 y m).mono hid_sub, ⟨a, vs, rfl, hid_sub a _ ha, hr.mono hid_sub⟩, ?_⟩
          rw [atKey_some, x3]
          have e2 : decide (keyH hs ∈ ks.map keyH) = decide (hs ∈ ks) := by
            rw [Bool.eq_iff_iff, decide_eq_true_eq, decide_eq_true_eq]
            exact keyH_mem
          rw [e2]
          exact hq _ H (Ex.refl H) rfl
      · cases hg
    | _ => simp [inFG] at hg
  | _ => simp [inFG] at hg
theorem ps_any {X : Cx} {st : Stmt} {P : Program} {w : World} {t : Addr → (Hp → Prop) → List Hands → TS} (h : ∀ d φ ks, GoodF P w d φ ks → PS X st (t d φ ks)) : PS X st (fun D σ H => ∃ d φ ks, GoodF P w d φ ks ∧ t d φ ks D σ H) :=
  ⟨fun pins s σ H D I ⟨d, φ, ks, g, q⟩ => (h d φ ks g).run pins s σ H D I q⟩
/-- a step that leaves all that is hidden -/
theorem pure_step {Ew : Hp → Prop} {F : ES → Option Out} {D : Ends} {σ : L2.St} {H : Hp} {S : List Addr} {ρ ρ' : En} (hS : InD S H) (hr : RepS (hid H S) σ ρ) (hF : F ⟨none, ρ⟩ = some (.nx ⟨none, ρ'⟩)) (k : ∀ σ' H', Ex H H' → RepS (hid H' S) σ' ρ' → D.nx σ' H') : tDS Ew F D σ H :=
  ⟨H, S, ⟨none, ρ⟩, .nx ⟨none, ρ'⟩, SR.start hS hr, hF, fun σ' H' ⟨ow, s⟩ => by
    have o2 : ow = [] := by
      rcases s.own with o | ⟨k, p, xs, ds, a1, _⟩
      · exact o.2
      · cases a1
    subst o2
    exact k σ' H' s.ex s.rep⟩
/-- _law_told(lambda: x(..)) by data -/
def tTold (T : List (Addr × Str)) (G : List D → Option (Option D)) (fa : En → Option (List D)) : TE := fun σ H Q => LamX.Tabs T H ∧ ∀ H1, LamX.ExtN H H1 → LamX.Tabs T H1 → ∃ ρ S ds r, InD S H1 ∧ RepS (hid H1 S) σ ρ ∧ fa ρ = some ds ∧ ds.length = 2 ∧ G ds = some r ∧ ∀ v H2, Ex H1 H2 → Rep (hid H2 S) (r.getD .non) v → Q v H2
theorem p_lam {X : Cx} {scope : Scope} {A : Around} {outer : List Env} {s : Shared} {H : Hp} {E : XK} {f c2 : Addr} {C : Addr} {k : Nat} {x : Str} {p q : Pos} {G : List D → Option (Option D)} {x1 x2 : Str} {p1 p2 : Pos} (cc : CalX X.prog X.w X.K X.mg X.base k x (spX C 2 G)) (hr : Room k (LamX.lamCx X A outer s H E scope f c2).A)
    (hg : Gl (LamX.lamCx X A outer s H E scope f c2) x) (hdb : (x == ("__debug__" : Str)) = false) {fa : En → Option (List D)} (ha : PA (LamX.lamCx X A outer s H E scope f c2) [.Name x1 p1, .Name x2 p2] (tDA fa) := by exact da_cons (de_var (pv 2)) (da_cons (de_var (pv 11)) da_nil)) :
    PE (LamX.lamCx X A outer s H E scope f c2) (.Call (.Name x p) [.Name x1 p1, .Name x2 p2] [] q) (tCallS (spX C 2 G) (WE fun cls d _ H => E cls d H) (tDA fa)) := by
  obtain ⟨f, fd, ps, F, hm, kp, b⟩ := cc
  exact pe_callS F hr hg hm kp b (fun σ => passAt (takes_of rfl rfl rfl rfl) σ) ha hdb
/-- the law's table of code objects -/
def lamT (Pt : Addr) (qn : Str) : List (Addr × Str) := [(Pt, qn ++ "<lambda>")]
theorem p_told {X : Cx} {C CH c Pt : Addr} {params : Arguments} {body : Expr} {scope : Scope} {p lpos pos : Pos} {k : Nat} {G : List D → Option (Option D)} {fa : En → Option (List D)} (T : Txt X.K X.mg) (TX : TxtX X.K X.mg C CH) (TB : LamX.TabB X.base X.mg c Pt) (hcode : X.env.code = .ref c) (hg : Gl X "_law_told") (hr : Room (k + 2) X.A)
    (hbody : ∀ (A : Around) (outer : List Env) (s : Shared) (H : Hp) (E : XK) (f c2 : Addr), Room k (A.deeper (LamX.lamEnv X scope s.heap.objs.size f c2)) → PE (LamX.lamCx X A outer s H E scope f c2) body (tCallS (spX C 2 G) (WE fun cls d _ H => E cls d H) (tDA fa)))
    (L : LamX.LamS X.env.scope scope := by exact LamX.lamS_by (by kernel_rfl)) (hdef : defaultsOf params X.env = ([], []) := by rfl)
    (hbind : ∀ (q : Str) (cl : List (Str × Addr)) (pm cv ctv : Value), bindArgs (PySem.W.kla_fn "<lambda>" q params body scope cl pm cv ctv) ⟨[], []⟩ = pure [] := by intros; rfl) :
    PE X (.Call (.Name "_law_told" p) [.Lambda params body scope lpos] [] pos) (tTold (lamT Pt X.env.qual) G fa) := by
  obtain ⟨g, fd, F, hm, hb⟩ := T.d__law_told.ex
  obtain ⟨⟨oc, od, kV, doc, pm, an, cdv, ct, osl, rfl, lk, hcd⟩, kp⟩ := F
  refine PE.imp (LamX.pe_lamcall (Ng := ["_law_work", "e"]) (T := lamT Pt X.env.qual) hg hm kp lk hcd hb sc__law_told rfl (.inl rfl) (toldN_gives T TX) TB hcode (List.mem_singleton.mpr rfl) (fun q m _ => by rw [List.mem_singleton.mp (show q ∈ [(Pt, X.env.qual ++ "<lambda>")] from m)]) hr L hdef hbind hbody) fun σ H Q ⟨h1, h2⟩ => ⟨h1, fun H1 e t1 => ?_⟩
  obtain ⟨ρ, S, ds, r, q1, q2, q3, q4, q5, q6⟩ := h2 H1 e t1
  refine ⟨ρ, S, ds, q1, q2, q3, fun vs H2 e2 r2 => ?_⟩
  refine ⟨S, ds, r, q1.mono e2, r2, q4, q5, fun d' hd v H3 e3 r3 => ?_, fun hn H3 e3 => ⟨rfl, rfl, ?_⟩⟩
  · subst hd
    exact q6 v H3 (e2.trans e3) r3
  · subst hn
    exact q6 .non H3 (e2.trans e3) rfl
/-! ### the parts of the body, by data -/
def FL4 : ES → Option Out := (setF 6 (callE 2 G__law_done (consE (vE 2) (consE (vE 5) nilE))))
def FL6 : ES → Option Out := (ifF (orB (notB (asB (callE 2 (alG 6) (consE (callE 1 G_ends (consE (vE 2) nilE)) (consE (vE 7) nilE))))) (notB (asB (callE 2 (alG 6) (consE (callE 1 G_count_ends (consE (vE 2) nilE)) (consE (bE lenG (consE (vE 7) nilE)) nilE)))))) (retF (cE (.bl false))) nextF)
def FL7 : ES → Option Out := (ifF (orB (notB (asB (callE 2 (alG 6) (consE (callE 1 G_least_end (consE (vE 2) nilE)) (consE (o2 ixG (vE 7) (cE (.int 0))) nilE))))) (notB (asB (callE 2 (alG 6) (consE (callE 1 G_greatest_end (consE (vE 2) nilE)) (consE (o2 ixG (vE 7) (cE (.int (-1)))) nilE)))))) (retF (cE (.bl false))) nextF)
def FL9 : ES → Option Out := (ifF (notB (asB (callE 2 (alG 6) (consE (callE 2 G_end_of (consE (vE 2) (consE (vE 5) nilE))) (consE (callE 2 G__law_done (consE (vE 2) (consE (vE 5) nilE))) nilE))))) (retF (cE (.bl false))) nextF)
def FL10 : ES → Option Out := (forF (lstE (callE 1 thingsG (consE (vE 2) nilE))) (.nm 8) (ifF (notB (asB (callE 2 (alG 6) (consE (callE 2 G_can_keep (consE (vE 2) (consE (vE 8) nilE))) (consE (bE tupleG (consE (usortE (lcE (lstE (vE 7)) (.nm 11) tyE (o2 ixG (callE 2 G__law_holders (consE (vE 11) (consE (vE 8) nilE))) (cE (.int 0))) [11])) nilE)) nilE))))) (retF (cE (.bl false))) nextF))
def FL12 : ES → Option Out := (setF 10 (bE tupleG (consE (lcE (rg1E (consE (bE lenG (consE (vE 2) nilE)) nilE)) (.nm 15) tyE (bE tupleG (consE (lcE (lstE (callE 1 thingsG (consE (vE 2) nilE))) (.nm 8) (asB (o2 eqG (o2 ixG (vE 9) (vE 8)) (vE 15))) (vE 8) [8]) nilE)) [15]) nilE)))
noncomputable def FLa (d : Addr) (φ : Hp → Prop) (ks : List (List (List Int))) : ES → Option Out := (ifF (notB (asB (callE 2 (alG 6) (consE (callE 2 G_can_end (consE (vE 2) (consE (vE 11) nilE))) (consE (o2 (inFG d φ ks) (vE 11) (vE 4)) nilE))))) (retF (cE (.bl false))) nextF)
def FLb : ES → Option Out := (setF 12 (bE tupleG (consE (lcE (lstE (callE 1 thingsG (consE (vE 11) nilE))) (.nm 8) tyE (tupE' (consE (vE 8) (consE (o2 ixG (callE 2 G__law_holders (consE (vE 11) (consE (vE 8) nilE))) (cE (.int 0))) nilE))) [8]) nilE)))
def FLd : ES → Option Out := (setF 13 (lstE' nilE))
noncomputable def FLe (d : Addr) (φ : Hp → Prop) (ks : List (List (List Int))) : ES → Option Out := (forF (tupE (ifE (asB (o2 (inFG d φ ks) (vE 11) (vE 4))) (vE 12) (tupE' nilE))) (.pr 8 14) (setF 13 (o2 catLG (vE 13) (lcE (lstE (callE 2 G__law_holders (consE (vE 2) (consE (vE 8) nilE)))) (.nm 15) (asB (o2 neG (vE 15) (vE 14))) (tupE' (consE (vE 15) (consE (vE 14) nilE))) [15]))))
noncomputable def fxc (d : Addr) (φ : Hp → Prop) (ks : List (List (List Int))) : En → Option D := (ifE (asB (o2 (inFG d φ ks) (vE 11) (vE 4))) (vE 12) (cE .non))
noncomputable def fxf (d : Addr) (φ : Hp → Prop) (ks : List (List (List Int))) : En → Option D := (ifE (asB (o2 (inFG d φ ks) (vE 11) (vE 4))) (bE tupleG (consE (usortTE (vE 13)) nilE)) (cE .non))
end DL
end Part_PC1
section Part_PC0
set_option Elab.async false
set_option linter.all false
set_option maxRecDepth 100000
set_option maxHeartbeats 2000000
set_option autoImplicit false
namespace DL
open PySem L2

/-! ## the law's parts, evaluated; what is wanted of the program for the hands hs -/
theorem ocap {n : Nat} (h : n ≤ 100000) : n ≤ cap := h
theorem things_eq (hs : Hands) (h : hs.flatten.length ≤ 100000) : thingsG [dHs hs] = some (.lst ((thingsM hs).map .int)) := by
  show (rowsOf (hs.map dRow)).bind _ = _
  rw [rowsOf_map]
  show (if hs.flatten.length ≤ cap then some (D.lst ((usort hs.flatten).map .int)) else none) = _
  rw [if_pos (ocap h)]
  rfl
theorem hat_get {hs : Hands} {p : Int} (h : p ∈ peop hs) : (hs.map dRow)[p.toNat]? = some (dRow (hat hs p)) ∧ p = ((p.toNat : Nat) : Int) ∧ p.toNat < hs.length := by
  obtain ⟨h1, h2⟩ := peop_mem.mp h
  have h3 : p.toNat < hs.length := by omega
  refine ⟨?_, by omega, h3⟩
  rw [List.getElem?_map, List.getElem?_eq_getElem h3]
  unfold hat
  rw [List.getD_eq_getElem?_getD, List.getElem?_eq_getElem h3]
  rfl
theorem in_row (n : Bool) (t : Int) (h : Hand) : inG n (.int t) (dRow h) = some (.bl (if n then !decide (t ∈ h) else decide (t ∈ h))) := by
  simp only [inG, dRow, itemsD, Option.bind_some, intsOf_map, Option.map_some]
theorem in_lst (n : Bool) (t : Int) (h : List Int) : inG n (.int t) (.lst (h.map .int)) = some (.bl (if n then !decide (t ∈ h) else decide (t ∈ h))) := by
  simp only [inG, itemsD, Option.bind_some, intsOf_map, Option.map_some]
theorem ix_hat {hs : Hands} {p : Int} (h : p ∈ peop hs) : ixG (dHs hs) (.int p) = some (dRow (hat hs p)) := by
  obtain ⟨h1, h2, _⟩ := hat_get h
  have e := ix_of (l := dHs hs) (i := p.toNat) rfl h1
  rw [← h2] at e
  exact e
theorem len_hs (hs : Hands) : lenG [dHs hs] = some (.int (hs.length : Nat)) := by
  have := len_of (l := dHs hs) rfl
  rw [List.length_map] at this
  exact this
theorem peop_enc (hs : Hands) : (List.range hs.length).map (fun i => D.int ((i : Nat) : Int)) = (peop hs).map D.int := by
  unfold peop
  rw [List.map_map]
  rfl
theorem lawhold_ok (hs : Hands) (t : Int) (h : hs.length ≤ 100000) : G__law_holders [dHs hs, .int t] = some (.lst ((holdM hs t).map .int)) := by
  refine run_rt (ρ := [some (dHs hs), some (.int t), none]) (ret_eq ?_) rfl
  refine lcE_eq (peop hs) D.int (fun p => [some (dHs hs), some (.int t), some (.int p)]) (fun p => decide (t ∈ hat hs p)) D.int ?_ (ocap (by have := List.length_filter_le (fun p => decide (t ∈ hat hs p)) (peop hs); rw [peop_len] at this; omega)) fun p m => ⟨rfl, ?_, fun _ => rfl⟩
  · rw [rg1_eq (n := hs.length) (cons1 ((bE_eq (cons1 rfl)).trans (len_hs hs))) h, peop_enc]
  · exact asB_eq ((o2_eq rfl ((o2_eq rfl rfl).trans (ix_hat m))).trans (in_row false t (hat hs p)))
theorem holdM_peop {hs : Hands} {t p : Int} (h : p ∈ holdM hs t) : p ∈ peop hs := (List.mem_filter.mp h).1
theorem head_mem {l : List Int} (h : l ≠ []) : l.headD 0 ∈ l := by
  cases l with
  | nil => exact absurd rfl h
  | cons x r => exact List.mem_cons_self ..
theorem ix_head {l : List Int} (h : l ≠ []) : ixG (.lst (l.map .int)) (.int 0) = some (.int (l.headD 0)) := by
  cases l with
  | nil => exact absurd rfl h
  | cons x r => exact ix_of (l := .lst ((x :: r).map D.int)) (i := 0) rfl rfl
theorem usortE_eq {f : En → Option D} {ρ : En} {ns us : List Int} (h : f ρ = some (.lst (ns.map .int))) (hl : ns.length < 4000) (hu : ∀ k ∈ ns, k ∈ us) (hul : us.length < 64) : usortE f ρ = some (.lst ((usort ns).map .int)) := by
  unfold usortE
  rw [h]
  simp only [Option.bind_some, itemsD, intsOf_map]
  have nd : (usort ns).Nodup := (usort_lt ns).imp fun {a b} z e => by omega
  have : (usort ns).length ≤ us.length := nodup_le nd fun k m => hu k ((usort_mem k ns).mp m)
  rw [if_pos ⟨hl, by omega⟩]
theorem dSm_ints (n : Nat) : ∀ ns : List Int, dSms n (ns.map .int) = true := fun ns => dSms_of fun d m => by
  obtain ⟨i, _, rfl⟩ := List.mem_map.mp m
  cases n <;> rfl
theorem dSm_row (n : Nat) {h : List Int} (k : h.length ≤ 100000) : dSm (n + 1) (dRow h) = true := by
  unfold dRow dSm
  rw [dSm_ints, decide_eq_true (ocap (by rw [List.length_map]; exact k))]
  rfl
theorem dSm_lint (n : Nat) {h : List Int} (k : h.length ≤ 100000) : dSm (n + 1) (.lst (h.map .int)) = true := by
  unfold dSm
  rw [dSm_ints, decide_eq_true (ocap (by rw [List.length_map]; exact k))]
  rfl
theorem dSm_hs (n : Nat) {hs : Hands} (k : hs.length ≤ 100000) (q : ∀ h ∈ hs, h.length ≤ 100000) : dSm (n + 2) (dHs hs) = true := by
  have e : dSms (n + 1) (hs.map dRow) = true := dSms_of fun d m => by
    obtain ⟨h, mh, rfl⟩ := List.mem_map.mp m
    exact dSm_row n (q h mh)
  unfold dHs dSm
  rw [e, decide_eq_true (ocap (by rw [List.length_map]; exact k))]
  rfl
/-- hands of the size that the law makes -/
structure Small (e : Hands) : Prop where
  len : e.length ≤ 5
  row : ∀ h ∈ e, h.length ≤ 6
  nat : ∀ h ∈ e, ∀ x ∈ h, 0 ≤ x ∧ x < 6
theorem Small.flat {e : Hands} (s : Small e) : e.flatten.length ≤ 100000 := by
  have : ∀ l : Hands, (∀ h ∈ l, h.length ≤ 6) → l.flatten.length ≤ 6 * l.length := by
    intro l
    induction l with
    | nil => intro _; simp
    | cons h l ih =>
      intro q
      have a := q h (List.mem_cons_self ..)
      have b := ih fun x m => q x (List.mem_cons_of_mem _ m)
      simp only [List.flatten_cons, List.length_append, List.length_cons]
      omega
  have := this e s.row
  have := s.len
  omega
theorem Small.sm {e : Hands} (s : Small e) (n : Nat) : dSm (n + 2) (dHs e) = true := dSm_hs n (by have := s.len; omega) fun h m => by have := s.row h m; omega
theorem dSm_lhs (n : Nat) {l : List Hands} (k : l.length ≤ 100000) (q : ∀ e ∈ l, Small e) : dSm (n + 3) (.lst (l.map dHs)) = true := by
  have e : dSms (n + 2) (l.map dHs) = true := dSms_of fun d m => by
    obtain ⟨h, mh, rfl⟩ := List.mem_map.mp m
    exact (q h mh).sm n
  unfold dSm
  rw [e, decide_eq_true (ocap (by rw [List.length_map]; exact k))]
  rfl
/-- what is wanted of the program -/
structure LF (hs : Hands) : Prop where
  orders : G__law_orders [.int (hs.length : Nat)] = some (.lst ((ordersM hs.length).map dRow))
  ocap : (ordersM hs.length).length ≤ 120
  one : ordersM hs.length ≠ []
  sm : Small hs
  dsm : ∀ o ∈ ordersM hs.length, Small (doneM hs o)
  dlen : ∀ o, (doneM hs o).length = hs.length
  done : ∀ o ∈ ordersM hs.length, G__law_done [dHs hs, dRow o] = some (dHs (doneM hs o))
  ends : G_ends [dHs hs] = some (.lst ((dueM hs).map dHs))
  cnt : G_count_ends [dHs hs] = some (.int ((dueM hs).length : Nat))
  least : ∃ e, (dueM hs)[0]? = some e ∧ G_least_end [dHs hs] = some (dHs e)
  great : ∃ e, (dueM hs)[(dueM hs).length - 1]? = some e ∧ G_greatest_end [dHs hs] = some (dHs e)
  endof : ∀ o ∈ ordersM hs.length, G_end_of [dHs hs, dRow o] = some (dHs (doneM hs o))
  hold : ∀ e ∈ dueM hs, ∀ t ∈ thingsM hs, holdM e t ≠ []
  keep : ∀ t ∈ thingsM hs, G_can_keep [dHs hs, .int t] = some (.tup ((usort ((dueM hs).map fun e => (holdM e t).headD 0)).map .int))
  osm : ∀ aw : List Int, Small (otherM hs aw)
  ohold : ∀ aw, ∀ t ∈ thingsM (otherM hs aw), holdM (otherM hs aw) t ≠ []
  can : ∀ e, (e ∈ dueM hs ∨ ∃ aw, e = otherM hs aw) → G_can_end [dHs hs, dHs e] = some (.bl (decide (e ∈ keysM hs)))
  kee : ∀ e, (e ∈ dueM hs ∨ ∃ aw, e = otherM hs aw) → G_keepers [dHs hs, dHs e] = some (if e ∈ keysM hs then some (.tup ((told1 e).map dPr)) else none)
  ahe : ∀ e, (e ∈ dueM hs ∨ ∃ aw, e = otherM hs aw) → G_ahead [dHs hs, dHs e] = some (if e ∈ keysM hs then some (.tup ((usortP (stepsM hs (told1 e))).map dPr)) else none)
end DL
end Part_PC0
section Part_PC3
set_option Elab.async false
set_option linter.all false
set_option maxRecDepth 100000
set_option maxHeartbeats 2000000
set_option autoImplicit false
namespace DL
open PySem L2
section
variable {hs : Hands} {z0 z1 z3 z4 z5 z6 z7 z8 z9 z10 z11 z12 z13 z14 z15 : Option D} {zs : List (Option D)}
theorem lstE_eq {f : En → Option D} {ρ : En} {ds : List D} (h : f ρ = some (.lst ds)) : lstE f ρ = some ds := by
  unfold lstE
  rw [h]
  rfl
theorem tupE_eq {f : En → Option D} {ρ : En} {ds : List D} (h : f ρ = some (.tup ds)) : tupE f ρ = some ds := by
  unfold tupE
  rw [h]
  rfl
theorem for_eq {fi : En → Option (List D)} {t : Tg} {F : ES → Option Out} {ρ : En} {ds : List D} {o : Option Out} (h : fi ρ = some ds) (k : loopF t F ds ⟨none, ρ⟩ = o) : forF fi t F ⟨none, ρ⟩ = o := by
  show (fi ρ).bind _ = _
  rw [h]
  exact k
theorem FL4_ok (L : LF hs) {o : List Int} (m : o ∈ ordersM hs.length) : FL4 ⟨none, z0 :: z1 :: some (dHs hs) :: z3 :: z4 :: some (dRow o) :: z6 :: zs⟩ = some (.nx ⟨none, z0 :: z1 :: some (dHs hs) :: z3 :: z4 :: some (dRow o) :: some (dHs (doneM hs o)) :: zs⟩) :=
  set_eq (ρ := z0 :: z1 :: some (dHs hs) :: z3 :: z4 :: some (dRow o) :: z6 :: zs) ((callE_eq (cons2 rfl rfl) rfl).trans (L.done o m))
theorem keysM_mem {hs e : Hands} : e ∈ keysM hs ↔ ∃ o ∈ ordersM hs.length, doneM hs o = e := by
  have gen : ∀ (l acc : List Hands), e ∈ l.foldl addK acc ↔ e ∈ acc ∨ e ∈ l := by
    intro l
    induction l with
    | nil => intro acc; simp
    | cons x l ih =>
      intro acc
      rw [List.foldl_cons, ih, List.mem_cons]
      unfold addK
      split
      · rename_i hx
        constructor
        · rintro (a | a)
          · exact .inl a
          · exact .inr (.inr a)
        · rintro (a | a | a)
          · exact .inl a
          · rw [a]
            exact .inl hx
          · exact .inr a
      · rw [List.mem_append, List.mem_singleton]
        constructor
        · rintro ((a | a) | a)
          · exact .inl a
          · exact .inr (.inl a)
          · exact .inr (.inr a)
        · rintro (a | a | a)
          · exact .inl (.inl a)
          · exact .inl (.inr a)
          · exact .inr a
  unfold keysM
  rw [gen]
  simp only [List.not_mem_nil, false_or, List.mem_map]
theorem keysM_nodup {hs : Hands} : (keysM hs).Nodup := by
  have gen : ∀ (l acc : List Hands), acc.Nodup → (l.foldl addK acc).Nodup := by
    intro l
    induction l with
    | nil => intro acc h; exact h
    | cons x l ih =>
      intro acc h
      rw [List.foldl_cons]
      refine ih _ ?_
      unfold addK
      split
      · exact h
      · rename_i hx
        rw [List.nodup_append]
        exact ⟨h, by simp, fun a ha b hb e => hx (by rw [← List.mem_singleton.mp hb, ← e]; exact ha)⟩
  exact gen _ _ .nil
theorem dueM_mem {hs e : Hands} : e ∈ dueM hs ↔ e ∈ keysM hs := (List.mergeSort_perm _ _).mem_iff
theorem dueM_len {hs : Hands} : (dueM hs).length = (keysM hs).length := (List.mergeSort_perm _ _).length_eq
theorem keysM_len {hs : Hands} : (keysM hs).length ≤ (ordersM hs.length).length := by
  have gen : ∀ (l acc : List Hands), (l.foldl addK acc).length ≤ acc.length + l.length := by
    intro l
    induction l with
    | nil => intro acc; simp
    | cons x l ih =>
      intro acc
      rw [List.foldl_cons, List.length_cons]
      refine Nat.le_trans (ih _) ?_
      unfold addK
      split
      · omega
      · rw [List.length_append, List.length_singleton]
        omega
  have := gen ((ordersM hs.length).map (doneM hs)) []
  rw [List.length_map, List.length_nil, Nat.zero_add] at this
  exact this
theorem LF.due_small (L : LF hs) {e : Hands} (m : e ∈ dueM hs) : Small e := by
  obtain ⟨o, mo, rfl⟩ := keysM_mem.mp (dueM_mem.mp m)
  exact L.dsm o mo
theorem LF.due_len (L : LF hs) : (dueM hs).length ≤ 120 := by
  rw [dueM_len]
  exact Nat.le_trans keysM_len L.ocap
theorem LF.due_pos (L : LF hs) : 0 < (dueM hs).length := by
  cases h : ordersM hs.length with
  | nil => exact absurd h L.one
  | cons o r =>
    have m : o ∈ ordersM hs.length := by rw [h]; exact List.mem_cons_self ..
    exact List.length_pos_of_mem (dueM_mem.mpr (keysM_mem.mpr ⟨o, m, rfl⟩))
/-- alike(x, x), both read -/
theorem alike_eq {f g : En → Option D} {ρ : En} {d : D} (h : f ρ = some d) (k : g ρ = some d) (s : dSm 5 d = true) : asB (callE 2 (alG 6) (consE f (consE g nilE))) ρ = some true :=
  asB_eq ((callE_eq (cons2 h k) rfl).trans (al_ok 5 d s))
theorem FL6_ok (L : LF hs) : FL6 ⟨none, z0 :: z1 :: some (dHs hs) :: z3 :: z4 :: z5 :: z6 :: some (.lst ((dueM hs).map dHs)) :: zs⟩ = some (.nx ⟨none, z0 :: z1 :: some (dHs hs) :: z3 :: z4 :: z5 :: z6 :: some (.lst ((dueM hs).map dHs)) :: zs⟩) := by
  have hl := L.due_len
  refine if_f (ρ := z0 :: z1 :: some (dHs hs) :: z3 :: z4 :: z5 :: z6 :: some (.lst ((dueM hs).map dHs)) :: zs) ((or_f (not_eq (alike_eq ((callE_eq (cons1 rfl) rfl).trans L.ends) rfl (dSm_lhs 2 (by omega) fun e m => L.due_small m)))).trans
    (not_eq (alike_eq ((callE_eq (cons1 rfl) rfl).trans L.cnt) ((bE_eq (cons1 rfl)).trans ?_) rfl))) rfl
  have := len_of (l := .lst ((dueM hs).map dHs)) rfl
  rw [List.length_map] at this
  exact this
theorem FL7_ok (L : LF hs) : FL7 ⟨none, z0 :: z1 :: some (dHs hs) :: z3 :: z4 :: z5 :: z6 :: some (.lst ((dueM hs).map dHs)) :: zs⟩ = some (.nx ⟨none, z0 :: z1 :: some (dHs hs) :: z3 :: z4 :: z5 :: z6 :: some (.lst ((dueM hs).map dHs)) :: zs⟩) := by
  obtain ⟨e1, h1, g1⟩ := L.least
  obtain ⟨e2, h2, g2⟩ := L.great
  have m1 : e1 ∈ dueM hs := List.mem_of_getElem? h1
  have m2 : e2 ∈ dueM hs := List.mem_of_getElem? h2
  have hp := L.due_pos
  refine if_f (ρ := z0 :: z1 :: some (dHs hs) :: z3 :: z4 :: z5 :: z6 :: some (.lst ((dueM hs).map dHs)) :: zs) ((or_f (not_eq (alike_eq ((callE_eq (cons1 rfl) rfl).trans g1) ((o2_eq rfl rfl).trans (ix_of (l := .lst ((dueM hs).map dHs)) (i := 0) rfl ?_)) ((L.due_small m1).sm 3)))).trans
    (not_eq (alike_eq ((callE_eq (cons1 rfl) rfl).trans g2) ((o2_eq rfl rfl).trans ?_) ((L.due_small m2).sm 3)))) rfl
  · rw [List.getElem?_map, h1]
    rfl
  · show (some ((dueM hs).map dHs)).bind _ = _
    simp only [Option.bind_some]
    unfold atI ixN
    rw [if_neg (by omega), if_pos (by rw [List.length_map]; omega), List.length_map]
    have e : (-1 + ((dueM hs).length : Int)).toNat = (dueM hs).length - 1 := by omega
    rw [e]
    simp only [Option.bind_some]
    rw [List.getElem?_map, h2]
    rfl
theorem FL9_ok (L : LF hs) {o : List Int} (m : o ∈ ordersM hs.length) : FL9 ⟨none, z0 :: z1 :: some (dHs hs) :: z3 :: z4 :: some (dRow o) :: zs⟩ = some (.nx ⟨none, z0 :: z1 :: some (dHs hs) :: z3 :: z4 :: some (dRow o) :: zs⟩) :=
  if_f (ρ := z0 :: z1 :: some (dHs hs) :: z3 :: z4 :: some (dRow o) :: zs) (not_eq (alike_eq ((callE_eq (cons2 rfl rfl) rfl).trans (L.endof o m)) ((callE_eq (cons2 rfl rfl) rfl).trans (L.done o m)) ((L.dsm o m).sm 3))) rfl
theorem FL10_ok (L : LF hs) : ∃ z8', FL10 ⟨none, [z0, z1, some (dHs hs), z3, z4, z5, z6, some (.lst ((dueM hs).map dHs)), z8, z9, z10, z11, z12, z13, z14, z15]⟩ = some (.nx ⟨none, [z0, z1, some (dHs hs), z3, z4, z5, z6, some (.lst ((dueM hs).map dHs)), z8', z9, z10, z11, z12, z13, z14, z15]⟩) := by
  have hlen := L.due_len
  have key := loopF_inv (t := .nm 8) (F := ifF (notB (asB (callE 2 (alG 6) (consE (callE 2 G_can_keep (consE (vE 2) (consE (vE 8) nilE))) (consE (bE tupleG (consE (usortE (lcE (lstE (vE 7)) (.nm 11) tyE (o2 ixG (callE 2 G__law_holders (consE (vE 11) (consE (vE 8) nilE))) (cE (.int 0))) [11])) nilE)) nilE))))) (retF (cE (.bl false))) nextF)
    D.int (fun _ e => ∃ y, e = ⟨none, [z0, z1, some (dHs hs), z3, z4, z5, z6, some (.lst ((dueM hs).map dHs)), y, z9, z10, z11, z12, z13, z14, z15]⟩) (thingsM hs) [] _ ⟨z8, rfl⟩ ?_
  · obtain ⟨e2, h1, y, rfl⟩ := key
    refine ⟨y, ?_⟩
    exact for_eq (lstE_eq ((callE_eq (cons1 rfl) rfl).trans (things_eq hs L.sm.flat))) h1
  · rintro pre t e mt ⟨y, rfl⟩
    refine ⟨_, _, rfl, if_f (ρ := [z0, z1, some (dHs hs), z3, z4, z5, z6, some (.lst ((dueM hs).map dHs)), some (.int t), z9, z10, z11, z12, z13, z14, z15]) (not_eq (alike_eq ((callE_eq (cons2 rfl rfl) rfl).trans (L.keep t mt)) ((bE_eq (cons1 (usortE_eq (ns := (dueM hs).map fun e => (holdM e t).headD 0) (us := peop hs) ?_ (by rw [List.length_map]; omega) (fun k m => ?_) (by rw [peop_len]; have := L.sm.len; omega)))).trans rfl) ?_)) rfl, some (.int t), rfl⟩
    · have := lcE_all (t := .nm 11) (f := o2 ixG (callE 2 G__law_holders (consE (vE 11) (consE (vE 8) nilE))) (cE (.int 0))) (fi := lstE (vE 7)) (vs := [11]) (ρ := [z0, z1, some (dHs hs), z3, z4, z5, z6, some (.lst ((dueM hs).map dHs)), some (.int t), z9, z10, z11, z12, z13, z14, z15])
        (dueM hs) dHs (fun e => [z0, z1, some (dHs hs), z3, z4, z5, z6, some (.lst ((dueM hs).map dHs)), some (.int t), z9, z10, some (dHs e), z12, z13, z14, z15]) (fun e => .int ((holdM e t).headD 0)) rfl (ocap (by omega)) fun e me => ⟨rfl, ?_⟩
      · rw [this, List.map_map]
        rfl
      · exact (o2_eq ((callE_eq (cons2 rfl rfl) rfl).trans (lawhold_ok e t (by have := (L.due_small me).len; omega))) rfl).trans (ix_head (L.hold e me t mt))
    · obtain ⟨e, me, rfl⟩ := List.mem_map.mp m
      have h1 := holdM_peop (head_mem (L.hold e me t mt))
      obtain ⟨o, mo, rfl⟩ := keysM_mem.mp (dueM_mem.mp me)
      rw [peop_mem] at h1 ⊢
      rw [L.dlen o] at h1
      exact h1
    · have : (usort ((dueM hs).map fun e => (holdM e t).headD 0)).length ≤ 100000 := by
        have nd : (usort ((dueM hs).map fun e => (holdM e t).headD 0)).Nodup := (usort_lt _).imp fun {a b} z e => by omega
        have := nodup_le (us := (dueM hs).map fun e => (holdM e t).headD 0) nd fun k m => (usort_mem k _).mp m
        rw [List.length_map] at this
        omega
      show dSm 5 (.tup ((usort ((dueM hs).map fun e => (holdM e t).headD 0)).map .int)) = true
      exact dSm_row 4 this
end
end DL
end Part_PC3
section Part_PC4
set_option Elab.async false
set_option linter.all false
set_option maxRecDepth 100000
set_option maxHeartbeats 2000000
set_option autoImplicit false
namespace DL
open PySem L2
theorem eq_int (a b : Int) : eqG (.int a) (.int b) = some (.bl (decide (a = b))) := by
  simp only [eqG, dOk, Bool.and_self, if_true, deq]
  by_cases h : a = b <;> simp [h]
theorem ne_int (a b : Int) : neG (.int a) (.int b) = some (.bl (decide (a ≠ b))) := by
  simp only [neG, dOk, Bool.and_self, if_true, deq]
  by_cases h : a = b <;> simp [h]
theorem ix_int {l : List Int} {i : Int} (h0 : 0 ≤ i) (h1 : i < l.length) : ixG (.lst (l.map .int)) (.int i) = some (.int (l.getD i.toNat 0)) := by
  have h2 : i.toNat < l.length := by omega
  have e := ix_of (l := .lst (l.map D.int)) (i := i.toNat) (d := .int (l.getD i.toNat 0)) rfl (by rw [List.getElem?_map, List.getElem?_eq_getElem h2, List.getD_eq_getElem?_getD, List.getElem?_eq_getElem h2]; rfl)
  rw [show ((i.toNat : Nat) : Int) = i from by omega] at e
  exact e
theorem things_mem {e : Hands} (s : Small e) {t : Int} (m : t ∈ thingsM e) : 0 ≤ t ∧ t < 6 := by
  rw [thingsM, usort_mem, List.mem_flatten] at m
  obtain ⟨h, mh, mt⟩ := m
  exact s.nat h mh t mt
theorem things_len {e : Hands} (s : Small e) : (thingsM e).length ≤ 6 := by
  have nd : (thingsM e).Nodup := (usort_lt _).imp fun {a b} z e => by omega
  have := nodup_le (us := [0, 1, 2, 3, 4, 5]) nd fun k m => by
    have := things_mem s m
    simp only [List.mem_cons, List.not_mem_nil, or_false]
    omega
  exact this
theorem rows_map {α : Type} (f : α → List Int) (l : List α) : (l.map fun x => dRow (f x)) = (l.map f).map dRow := by
  rw [List.map_map]
  rfl
section
variable {hs : Hands} {z0 z1 z2 z3 z4 z5 z6 z7 z8 z9 z10 z11 z12 z13 z14 z15 : Option D}
theorem FL12_ok (L : LF hs) {aw : List Int} (ha : aw.length = 8) : FL12 ⟨none, [z0, z1, some (dHs hs), z3, z4, z5, z6, z7, z8, some (.lst (aw.map .int)), z10, z11, z12, z13, z14, z15]⟩ = some (.nx ⟨none, [z0, z1, some (dHs hs), z3, z4, z5, z6, z7, z8, some (.lst (aw.map .int)), some (dHs (otherM hs aw)), z11, z12, z13, z14, z15]⟩) := by
  have hlen := L.sm.len
  have htl := things_len L.sm
  refine set_eq (ρ := [z0, z1, some (dHs hs), z3, z4, z5, z6, z7, z8, some (.lst (aw.map .int)), z10, z11, z12, z13, z14, z15]) ((bE_eq (cons1 (?_ : _ = some (.lst ((otherM hs aw).map dRow))))).trans rfl)
  have key := lcE_all (t := .nm 15) (f := bE tupleG (consE (lcE (lstE (callE 1 thingsG (consE (vE 2) nilE))) (.nm 8) (asB (o2 eqG (o2 ixG (vE 9) (vE 8)) (vE 15))) (vE 8) [8]) nilE)) (fi := rg1E (consE (bE lenG (consE (vE 2) nilE)) nilE)) (vs := [15])
    (ρ := [z0, z1, some (dHs hs), z3, z4, z5, z6, z7, z8, some (.lst (aw.map .int)), z10, z11, z12, z13, z14, z15]) (peop hs) D.int (fun p => [z0, z1, some (dHs hs), z3, z4, z5, z6, z7, z8, some (.lst (aw.map .int)), z10, z11, z12, z13, z14, some (.int p)])
    (fun p => dRow ((thingsM hs).filter fun t => decide (aw.getD t.toNat 0 = p))) ?_ (ocap (by rw [peop_len]; omega)) fun p mp => ⟨rfl, ?_⟩
  · rw [rows_map] at key
    exact key
  · rw [rg1_eq (n := hs.length) (cons1 ((bE_eq (cons1 rfl)).trans (len_hs hs))) (by omega), peop_enc]
  · have inner := lcE_eq (t := .nm 8) (c := asB (o2 eqG (o2 ixG (vE 9) (vE 8)) (vE 15))) (f := vE 8) (fi := lstE (callE 1 thingsG (consE (vE 2) nilE))) (vs := [8]) (ρ := [z0, z1, some (dHs hs), z3, z4, z5, z6, z7, z8, some (.lst (aw.map .int)), z10, z11, z12, z13, z14, some (.int p)])
      (thingsM hs) D.int (fun t => [z0, z1, some (dHs hs), z3, z4, z5, z6, z7, some (.int t), some (.lst (aw.map .int)), z10, z11, z12, z13, z14, some (.int p)]) (fun t => decide (aw.getD t.toNat 0 = p)) D.int (lstE_eq ((callE_eq (cons1 rfl) rfl).trans (things_eq hs L.sm.flat)))
      (ocap (by have := List.length_filter_le (fun t => decide (aw.getD t.toNat 0 = p)) (thingsM hs); omega)) fun t mt => ⟨rfl, ?_, fun _ => rfl⟩
    · exact (bE_eq (cons1 inner)).trans rfl
    · have := things_mem L.sm mt
      exact asB_eq ((o2_eq ((o2_eq rfl rfl).trans (ix_int (by omega) (by omega))) rfl).trans (eq_int _ _))
theorem inF_eq {d : Addr} {φ : Hp → Prop} {ks : List Hands} (e : Hands) : inFG d φ ks (dHs e) (.adr d φ) = some (.bl (decide (e ∈ ks))) := by
  unfold inFG dHs
  simp only [and_self, if_true, rowsOf_map, Option.map_some]
/-- an end that the law looks at -/
def Looked (hs e : Hands) : Prop := e ∈ dueM hs ∨ ∃ aw, e = otherM hs aw
theorem LF.look_small (L : LF hs) {e : Hands} (h : Looked hs e) : Small e := by
  rcases h with h | ⟨aw, rfl⟩
  · exact L.due_small h
  · exact L.osm aw
theorem LF.look_hold (L : LF hs) {e : Hands} (h : Looked hs e) (hd : ∀ e ∈ dueM hs, ∀ t ∈ thingsM e, holdM e t ≠ []) : ∀ t ∈ thingsM e, holdM e t ≠ [] := by
  rcases h with h | ⟨aw, rfl⟩
  · exact hd e h
  · exact L.ohold aw
theorem FLa_ok (L : LF hs) {e : Hands} (h : Looked hs e) {d : Addr} {φ : Hp → Prop} : FLa d φ (keysM hs) ⟨none, [z0, z1, some (dHs hs), z3, some (.adr d φ), z5, z6, z7, z8, z9, z10, some (dHs e), z12, z13, z14, z15]⟩ = some (.nx ⟨none, [z0, z1, some (dHs hs), z3, some (.adr d φ), z5, z6, z7, z8, z9, z10, some (dHs e), z12, z13, z14, z15]⟩) :=
  if_f (ρ := [z0, z1, some (dHs hs), z3, some (.adr d φ), z5, z6, z7, z8, z9, z10, some (dHs e), z12, z13, z14, z15]) (not_eq (alike_eq ((callE_eq (cons2 rfl rfl) rfl).trans (L.can e h)) ((o2_eq rfl rfl).trans (inF_eq e)) rfl)) rfl
theorem hold_flat {e : Hands} {t : Int} (m : t ∈ thingsM e) : holdM e t ≠ [] := by
  rw [thingsM, usort_mem, List.mem_flatten] at m
  obtain ⟨h, mh, mt⟩ := m
  obtain ⟨i, hi, rfl⟩ := List.getElem_of_mem mh
  have : ((i : Nat) : Int) ∈ holdM e t := by
    refine List.mem_filter.mpr ⟨peop_mem.mpr ⟨by omega, by omega⟩, decide_eq_true ?_⟩
    unfold hat
    rw [Int.toNat_natCast, List.getD_eq_getElem?_getD, List.getElem?_eq_getElem hi]
    exact mt
  exact List.ne_nil_of_mem this
theorem FLb_ok {e : Hands} (s : Small e) : FLb ⟨none, [z0, z1, z2, z3, z4, z5, z6, z7, z8, z9, z10, some (dHs e), z12, z13, z14, z15]⟩ = some (.nx ⟨none, [z0, z1, z2, z3, z4, z5, z6, z7, z8, z9, z10, some (dHs e), some (.tup ((told1 e).map dPr)), z13, z14, z15]⟩) := by
  have htl := things_len s
  have hlen := s.len
  refine set_eq (ρ := [z0, z1, z2, z3, z4, z5, z6, z7, z8, z9, z10, some (dHs e), z12, z13, z14, z15]) ((bE_eq (cons1 (?_ : _ = some (.lst ((told1 e).map dPr))))).trans rfl)
  have key := lcE_all (t := .nm 8) (f := tupE' (consE (vE 8) (consE (o2 ixG (callE 2 G__law_holders (consE (vE 11) (consE (vE 8) nilE))) (cE (.int 0))) nilE))) (fi := lstE (callE 1 thingsG (consE (vE 11) nilE))) (vs := [8]) (ρ := [z0, z1, z2, z3, z4, z5, z6, z7, z8, z9, z10, some (dHs e), z12, z13, z14, z15])
    (thingsM e) D.int (fun t => [z0, z1, z2, z3, z4, z5, z6, z7, some (.int t), z9, z10, some (dHs e), z12, z13, z14, z15]) (fun t => dPr (t, (holdM e t).headD 0)) (lstE_eq ((callE_eq (cons1 rfl) rfl).trans (things_eq e s.flat))) (ocap (by omega)) fun t mt => ⟨rfl, ?_⟩
  · rw [key]
    unfold told1
    rw [List.map_map]
    rfl
  · have e1 := (o2_eq (g := ixG) (fa := callE 2 G__law_holders (consE (vE 11) (consE (vE 8) nilE))) (fb := cE (.int 0)) (ρ := [z0, z1, z2, z3, z4, z5, z6, z7, some (.int t), z9, z10, some (dHs e), z12, z13, z14, z15]) ((callE_eq (cons2 rfl rfl) rfl).trans (lawhold_ok e t (by omega))) rfl).trans (ix_head (hold_flat mt))
    unfold tupE'
    rw [cons2 (x := .int t) rfl e1]
    rfl
theorem FLd_ok {l : List (Option D)} {i : D} : FLd ⟨none, [z0, z1, z2, z3, z4, z5, z6, z7, z8, z9, z10, z11, z12, z13, z14, z15]⟩ = some (.nx ⟨none, [z0, z1, z2, z3, z4, z5, z6, z7, z8, z9, z10, z11, z12, some (.lst []), z14, z15]⟩) :=
  set_eq (ρ := [z0, z1, z2, z3, z4, z5, z6, z7, z8, z9, z10, z11, z12, z13, z14, z15]) rfl
end
end DL
end Part_PC4
section Part_PC5
set_option Elab.async false
set_option linter.all false
set_option maxRecDepth 100000
set_option maxHeartbeats 2000000
set_option autoImplicit false
namespace DL
open PySem L2
section
variable {hs : Hands} {z0 z1 z2 z3 z4 z5 z6 z7 z8 z9 z10 z11 z12 z13 z14 z15 : Option D}
theorem stepsM_app (hs : Hands) (a b : List (Int × Int)) : stepsM hs (a ++ b) = stepsM hs a ++ stepsM hs b := by
  unfold stepsM
  rw [List.flatMap_append]
theorem steps1_len (s : Small hs) (q : Int × Int) : (((holdM hs q.1).filter fun p => decide (p ≠ q.2)).map fun p => (p, q.2)).length ≤ 5 := by
  rw [List.length_map]
  refine Nat.le_trans (List.length_filter_le _ _) ?_
  refine Nat.le_trans (List.length_filter_le _ _) ?_
  rw [peop_len]
  exact s.len
theorem stepsM_len (s : Small hs) : ∀ l : List (Int × Int), (stepsM hs l).length ≤ 5 * l.length
  | [] => by simp [stepsM]
  | q :: l => by
    have ih := stepsM_len s l
    have h1 := steps1_len s q
    have e : stepsM hs (q :: l) = (((holdM hs q.1).filter fun p => decide (p ≠ q.2)).map fun p => (p, q.2)) ++ stepsM hs l := by
      unfold stepsM
      rw [List.flatMap_cons]
    rw [e, List.length_append, List.length_cons]
    omega
theorem FLe_ok (L : LF hs) {e : Hands} (se : Small e) {d : Addr} {φ : Hp → Prop} : ∃ y8 y14, FLe d φ (keysM hs) ⟨none, [z0, z1, some (dHs hs), z3, some (.adr d φ), z5, z6, z7, z8, z9, z10, some (dHs e), some (.tup ((told1 e).map dPr)), some (.lst []), z14, z15]⟩ =
    some (.nx ⟨none, [z0, z1, some (dHs hs), z3, some (.adr d φ), z5, z6, z7, y8, z9, z10, some (dHs e), some (.tup ((told1 e).map dPr)), some (.lst ((if e ∈ keysM hs then stepsM hs (told1 e) else []).map dPr)), y14, z15]⟩) := by
  have hlen := L.sm.len
  have htl : (told1 e).length ≤ 6 := by
    unfold told1
    rw [List.length_map]
    exact things_len se
  have hb : asB (o2 (inFG d φ (keysM hs)) (vE 11) (vE 4)) [z0, z1, some (dHs hs), z3, some (.adr d φ), z5, z6, z7, z8, z9, z10, some (dHs e), some (.tup ((told1 e).map dPr)), some (.lst []), z14, z15] = some (decide (e ∈ keysM hs)) := asB_eq ((o2_eq rfl rfl).trans (inF_eq e))
  by_cases he : e ∈ keysM hs
  · rw [decide_eq_true he] at hb
    have key := loopF_inv2 (t := .pr 8 14) (F := setF 13 (o2 catLG (vE 13) (lcE (lstE (callE 2 G__law_holders (consE (vE 2) (consE (vE 8) nilE)))) (.nm 15) (asB (o2 neG (vE 15) (vE 14))) (tupE' (consE (vE 15) (consE (vE 14) nilE))) [15])))
      dPr (fun pre E => ∃ y8 y14, E = ⟨none, [z0, z1, some (dHs hs), z3, some (.adr d φ), z5, z6, z7, y8, z9, z10, some (dHs e), some (.tup ((told1 e).map dPr)), some (.lst ((stepsM hs pre).map dPr)), y14, z15]⟩) (L := told1 e) ⟨z8, z14, rfl⟩ ?_
    · obtain ⟨e2, h1, y8, y14, rfl⟩ := key
      refine ⟨y8, y14, ?_⟩
      rw [if_pos he]
      refine for_eq (tupE_eq (ds := (told1 e).map dPr) ?_) h1
      unfold ifE
      rw [hb]
      rfl
    · rintro pre q post E hL ⟨y8, y14, rfl⟩
      have hpre : pre.length < 6 := by
        have := congrArg List.length hL
        rw [List.length_append, List.length_cons] at this
        omega
      have hsl := stepsM_len L.sm pre
      have h1l := steps1_len L.sm q
      have inner := lcE_eq (t := .nm 15) (c := asB (o2 neG (vE 15) (vE 14))) (f := tupE' (consE (vE 15) (consE (vE 14) nilE))) (fi := lstE (callE 2 G__law_holders (consE (vE 2) (consE (vE 8) nilE)))) (vs := [15])
        (ρ := [z0, z1, some (dHs hs), z3, some (.adr d φ), z5, z6, z7, some (.int q.1), z9, z10, some (dHs e), some (.tup ((told1 e).map dPr)), some (.lst ((stepsM hs pre).map dPr)), some (.int q.2), z15])
        (holdM hs q.1) D.int (fun p => [z0, z1, some (dHs hs), z3, some (.adr d φ), z5, z6, z7, some (.int q.1), z9, z10, some (dHs e), some (.tup ((told1 e).map dPr)), some (.lst ((stepsM hs pre).map dPr)), some (.int q.2), some (.int p)])
        (fun p => decide (p ≠ q.2)) (fun p => dPr (p, q.2)) (lstE_eq ((callE_eq (cons2 rfl rfl) rfl).trans (lawhold_ok hs q.1 (by omega)))) (ocap (by rw [List.length_map] at h1l; omega)) fun p mp => ⟨rfl, asB_eq ((o2_eq rfl rfl).trans (ne_int p q.2)), fun _ => rfl⟩
      have e1 : o2 catLG (vE 13) (lcE (lstE (callE 2 G__law_holders (consE (vE 2) (consE (vE 8) nilE)))) (.nm 15) (asB (o2 neG (vE 15) (vE 14))) (tupE' (consE (vE 15) (consE (vE 14) nilE))) [15]) [z0, z1, some (dHs hs), z3, some (.adr d φ), z5, z6, z7, some (.int q.1), z9, z10, some (dHs e), some (.tup ((told1 e).map dPr)), some (.lst ((stepsM hs pre).map dPr)), some (.int q.2), z15] = some (.lst ((stepsM hs (pre ++ [q])).map dPr)) := by
        refine (o2_eq rfl inner).trans ?_
        unfold catLG
        simp only
        rw [if_pos (ocap (by rw [List.length_map, List.length_map]; rw [List.length_map] at h1l; omega)), stepsM_app, List.map_append]
        have : stepsM hs [q] = (((holdM hs q.1).filter fun p => decide (p ≠ q.2)).map fun p => (p, q.2)) := by
          unfold stepsM
          rw [List.flatMap_cons, List.flatMap_nil, List.append_nil]
        rw [this, List.map_map]
        rfl
      exact ⟨_, _, rfl, set_eq (ρ := [z0, z1, some (dHs hs), z3, some (.adr d φ), z5, z6, z7, some (.int q.1), z9, z10, some (dHs e), some (.tup ((told1 e).map dPr)), some (.lst ((stepsM hs pre).map dPr)), some (.int q.2), z15]) e1, some (.int q.1), some (.int q.2), rfl⟩
  · rw [decide_eq_false he] at hb
    refine ⟨z8, z14, ?_⟩
    rw [if_neg he]
    refine for_eq (tupE_eq (ds := []) ?_) rfl
    unfold ifE
    rw [hb]
    rfl
theorem fxc_ok {e : Hands} {d : Addr} {φ : Hp → Prop} : fxc d φ (keysM hs) [z0, z1, z2, z3, some (.adr d φ), z5, z6, z7, z8, z9, z10, some (dHs e), some (.tup ((told1 e).map dPr)), z13, z14, z15] = some (if e ∈ keysM hs then .tup ((told1 e).map dPr) else .non) := by
  have hb : asB (o2 (inFG d φ (keysM hs)) (vE 11) (vE 4)) [z0, z1, z2, z3, some (.adr d φ), z5, z6, z7, z8, z9, z10, some (dHs e), some (.tup ((told1 e).map dPr)), z13, z14, z15] = some (decide (e ∈ keysM hs)) := asB_eq ((o2_eq rfl rfl).trans (inF_eq e))
  unfold fxc ifE
  rw [hb]
  by_cases he : e ∈ keysM hs
  · rw [decide_eq_true he, if_pos he]
    rfl
  · rw [decide_eq_false he, if_neg he]
    rfl
theorem peop_inB {hs : Hands} (s : Small hs) {p : Int} (h : p ∈ peop hs) : 0 ≤ p ∧ p < 64 := by
  have := peop_mem.mp h
  have := s.len
  omega
theorem fxf_ok (L : LF hs) {e : Hands} (se : Small e) (hk : ∀ t ∈ thingsM e, (holdM e t).headD 0 < 64 ∧ 0 ≤ (holdM e t).headD 0) {d : Addr} {φ : Hp → Prop} : fxf d φ (keysM hs) [z0, z1, z2, z3, some (.adr d φ), z5, z6, z7, z8, z9, z10, some (dHs e), z12, some (.lst ((if e ∈ keysM hs then stepsM hs (told1 e) else []).map dPr)), z14, z15] = some (if e ∈ keysM hs then .tup ((usortP (stepsM hs (told1 e))).map dPr) else .non) := by
  have hb : asB (o2 (inFG d φ (keysM hs)) (vE 11) (vE 4)) [z0, z1, z2, z3, some (.adr d φ), z5, z6, z7, z8, z9, z10, some (dHs e), z12, some (.lst ((if e ∈ keysM hs then stepsM hs (told1 e) else []).map dPr)), z14, z15] = some (decide (e ∈ keysM hs)) := asB_eq ((o2_eq rfl rfl).trans (inF_eq e))
  unfold fxf ifE
  rw [hb]
  by_cases he : e ∈ keysM hs
  · rw [decide_eq_true he]
    simp only [if_pos he, Option.bind_some, if_true]
    have hB : ∀ p ∈ stepsM hs (told1 e), inB p := fun p m => by
      unfold stepsM told1 at m
      rw [List.mem_flatMap] at m
      obtain ⟨q, mq, m⟩ := m
      obtain ⟨t, mt, rfl⟩ := List.mem_map.mp mq
      obtain ⟨x, mx, rfl⟩ := List.mem_map.mp m
      have h1 := peop_inB L.sm (holdM_peop (List.mem_filter.mp mx).1)
      have h2 := hk t mt
      exact ⟨h1, h2.2, h2.1⟩
    have hl : (stepsM hs (told1 e)).length < 64 := by
      have h1 := stepsM_len L.sm (told1 e)
      have h2 : (told1 e).length ≤ 6 := by
        unfold told1
        rw [List.length_map]
        exact things_len se
      omega
    have e1 : usortTE (vE 13) [z0, z1, z2, z3, some (.adr d φ), z5, z6, z7, z8, z9, z10, some (dHs e), z12, some (.lst ((stepsM hs (told1 e)).map dPr)), z14, z15] = some (.lst ((usortP (stepsM hs (told1 e))).map dPr)) := by
      show (some (D.lst ((stepsM hs (told1 e)).map dPr))).bind _ = _
      simp only [Option.bind_some, prsOf_map hB, if_pos hl]
    exact (bE_eq (cons1 e1)).trans rfl
  · rw [decide_eq_false he]
    simp only [if_neg he, Option.bind_some, Bool.false_eq_true, if_false]
    rfl
end
end DL
end Part_PC5
section Part_PC6
set_option Elab.async false
set_option linter.all false
set_option maxRecDepth 100000
set_option maxHeartbeats 4000000
set_option autoImplicit false
namespace DL
open PySem PySem.Spec PyProof.Rows L2 Evl
theorem relV_ref {v : V} {b : Addr} (h : RelV v (.ref b)) : v = .ref b := by
  cases v with
  | ref a => injection h with h; rw [h]
  | non => cases h
  | bl x => cases h
  | int x => obtain ⟨t, h⟩ := h; cases h
  | str x => obtain ⟨t, h⟩ := h; cases h
  | byt x => obtain ⟨t, h⟩ := h; cases h
  | flt x => obtain ⟨t, h⟩ := h; cases h
  | ty x => cases h
/-- the row stands while all but a thing that is no list stands -/
theorem row_but {K : PySem.W.Frag} {a r d : Addr} {H H' : Hp} {φ : Heap → Prop} (h : RowAt K a H r) (e : ∀ b o, b ≠ d → H b = some o → H' b = some o) (hd : H d = some (.ext φ)) : RowAt K a H' r := by
  obtain ⟨ns, i, s, b, h1, h3, h4⟩ := h
  refine ⟨ns, i, s, b, e _ _ (fun z => ?_) h1, ?_, h4⟩
  · rw [z, hd] at h1
    cases h1
  · rcases h3 with (h | ⟨o, h⟩) | h
    · refine .inl (.inl (e _ _ (fun z => ?_) h))
      rw [z, hd] at h
      cases h
    · refine .inl (.inr ⟨o, e _ _ (fun z => ?_) h⟩)
      rw [z, hd] at h
      cases h
    · exact .inr h
theorem row_ex {K : PySem.W.Frag} {a r : Addr} {H H' : Hp} (h : RowAt K a H r) (e : Ex H H') : RowAt K a H' r := row_same h (off_ex e) h (by
  obtain ⟨ns, i, s, b, h1, _⟩ := h
  rw [h1]
  exact e _ _ h1)
theorem stored_mem {es : List KEn} {k : NestedKey} {b : Addr} {v : Value} {y : KEn} (h : y ∈ storedH es k b v) : y ∈ es ∨ (∃ z ∈ es, y = (z.1, z.2.1, v) ∧ z.1 = k) ∨ y = (k, b, v) := by
  unfold storedH at h
  split at h
  · obtain ⟨z, mz, e⟩ := List.mem_map.mp h
    unfold putAt at e
    split at e
    · rename_i hz
      exact .inr (.inl ⟨z, mz, e.symm, hz⟩)
    · rw [← e]
      exact .inl mz
  · rcases List.mem_append.mp h with m | m
    · exact .inl m
    · exact .inr (.inr (List.mem_singleton.mp m))
theorem stored_keys {es : List KEn} {ks : List Hands} {hs : Hands} {b : Addr} {v : Value} (h : es.map (·.1) = ks.map keyH) : (storedH es (keyH hs) b v).map (·.1) = (addK ks hs).map keyH := by
  have ha : (atKey es (keyH hs)).isSome = decide (hs ∈ ks) := by
    rw [atKey_some, h, Bool.eq_iff_iff, decide_eq_true_eq, decide_eq_true_eq]
    exact keyH_mem
  unfold storedH addK
  rw [ha]
  by_cases m : hs ∈ ks
  · rw [if_pos (decide_eq_true m), if_pos m, List.map_map, ← h]
    refine List.map_congr_left fun x _ => ?_
    show (putAt (keyH hs) v x).1 = x.1
    unfold putAt
    split <;> rfl
  · rw [if_neg (fun z => m (of_decide_eq_true z)), if_neg m, List.map_append, List.map_append, h]
    rfl
theorem stored_len {es : List KEn} {k : NestedKey} {b : Addr} {v : Value} : (storedH es k b v).length ≤ es.length + 1 := by
  unfold storedH
  split
  · rw [List.length_map]
    omega
  · rw [List.length_append]
    exact Nat.le_refl _
def keysTo (hs : Hands) (i : Nat) : List Hands := (((ordersM hs.length).take i).map (doneM hs)).foldl addK []
theorem keysTo_next {hs : Hands} {i : Nat} {o : List Int} (h : (ordersM hs.length)[i]? = some o) : keysTo hs (i + 1) = addK (keysTo hs i) (doneM hs o) := by
  unfold keysTo
  rw [List.take_add_one, h, List.map_append, List.foldl_append]
  rfl
/-- the dict that is being filled, behind i orders -/
structure DI (P : Program) (w : World) (K : PySem.W.Frag) (a r d Pt : Addr) (hs : Hands) (i : Nat) (H : Hp) (es : List KEn) : Prop where
  row : RowAt K a H r
  tb : H Pt = some (.tbl #[])
  fo : H d = some (FO P w d es)
  kok : ∀ y ∈ es, KOk (hid H [r, d]) y
  keys : es.map (·.1) = (keysTo hs i).map keyH
  vals : ∀ y ∈ es, ∃ b ws, y.2.2 = .ref b ∧ hid H [r, d] b = some (.lst ws) ∧ ws.length ≤ i
  len : es.length ≤ i
theorem dict_turn {P : Program} {w : World} {K : PySem.W.Frag} {a r d Pt : Addr} {hs : Hands} {i : Nat} {H : Hp} {es : List KEn} {σ : L2.St} {ρ : En} {D : Ends} {o : List Int} {ψ : Hp → Prop} (I : DI P w K a r d Pt hs i H es) (hS : InD [r, d] H) (hr : RepS (hid H [r, d]) σ ρ) (h4 : ρ[4]? = some (some (.adr d ψ))) (h5 : ρ[5]? = some (some (dRow o))) (h6 : ρ[6]? = some (some (dHs (doneM hs o))))
    (ho : (ordersM hs.length)[i]? = some o) (hi : i ≤ 1000) (k : ∀ H' es', DI P w K a r d Pt hs (i + 1) H' es' → Ex (hid H [r, d]) (hid H' [r, d]) → InD [r, d] H' → D.nx σ H') :
    tAsg (tOp rCat (tFGet P w (tVar 4) (tVar 6) (tLst tNil)) (tLst (tCons (tVar 5) tNil))) (gSub (tVar 4) (tVar 6) (rFSet P w)) D σ H := by
  obtain ⟨v4, s4, r4⟩ := hr.at' 4 _ h4
  obtain ⟨v5, s5, r5⟩ := hr.at' 5 _ h5
  obtain ⟨v6, s6, r6⟩ := hr.at' 6 _ h6
  obtain ⟨b6, xs6, hv6, hb6, hx6⟩ := id r6
  subst hv6
  have e4 : v4 = .ref d := r4.1
  subst e4
  have hd0 := I.fo
  have szl : ∀ {n : Nat}, n ≤ 100000 → n ≤ sizeLine := fun h => cap_le (ocap h)
  -- what is left, the old value's list at l
  have tail : ∀ (H3 : Hp), Ex H H3 → ∀ l ws, H3 l = some (.lst ws) → ws.length ≤ i → (tLst (tCons (tVar 5) tNil)) σ H3 fun y H4 => rCat (.ref l) y H4 fun x H5 => gSub (tVar 4) (tVar 6) (rFSet P w) x σ H5 D.nx := by
    intro H3 e3 l ws hl hw
    refine ⟨v5, s5, szl (show 1 ≤ 100000 by decide), fun p2 hp2 => ?_⟩
    have e34 : Ex H3 (upd H3 p2 (.lst [v5])) := Ex.new hp2
    refine ⟨l, p2, ws, [v5], rfl, rfl, e34 _ _ hl, upd_same, szl (by simp; omega), fun p3 hp3 => ?_⟩
    have e5 : Ex H (upd (upd H3 p2 (.lst [v5])) p3 (.lst (ws ++ [v5]))) := (e3.trans e34).trans (Ex.new hp3)
    have hp3H : H p3 = none := by
      cases z : H p3 with
      | none => rfl
      | some u =>
        rw [(e3.trans e34) p3 u z] at hp3
        cases hp3
    generalize hH5 : upd (upd H3 p2 (.lst [v5])) p3 (.lst (ws ++ [v5])) = H5 at e5 ⊢
    have at3 : H5 p3 = some (.lst (ws ++ [v5])) := by rw [← hH5, upd_same]
    have hd5 := e5 d _ hd0
    refine ⟨.ref d, s4, .ref b6, s6, d, es, doneM hs o, b6, p3, rfl, rfl, rfl, hd5, fun y m => (I.kok y m).mono (fun b u z => e5 b u (hid_sub b u z)), r6.mono (fun b u z => e5 b u (hid_sub b u z)), Nat.lt_of_le_of_lt I.len (Nat.lt_of_le_of_lt hi (cap_lt (ocap (by decide)))), ?_⟩
    have n3S : p3 ∉ [r, d] := fun m => hS p3 m hp3H
    have e6 : ∀ b u, b ≠ d → H b = some u → upd H5 d (FO P w d (storedH es (keyH (doneM hs o)) b6 (.ref p3))) b = some u := fun b u nb z => by rw [upd_ne nb]; exact e5 b u z
    have eS : Ex (hid H [r, d]) (hid (upd H5 d (FO P w d (storedH es (keyH (doneM hs o)) b6 (.ref p3)))) [r, d]) := fun b u z => by
      have nb : b ∉ [r, d] := fun m => by
        unfold hid at z
        rw [if_pos m] at z
        cases z
      exact hid_of (e6 b u (fun q => nb (by simp [q])) (hid_sub b u z)) nb
    have new3 : hid (upd H5 d (FO P w d (storedH es (keyH (doneM hs o)) b6 (.ref p3)))) [r, d] p3 = some (.lst (ws ++ [v5])) := hid_of (by rw [upd_ne (fun q => n3S (by simp [q]))]; exact at3) n3S
    refine k _ _ ⟨row_but I.row e6 hd0, e6 _ _ (fun q => ?_) I.tb, upd_same, fun y m => ?_, ?_, fun y m => ?_, Nat.le_trans stored_len (Nat.succ_le_succ I.len)⟩ eS fun b m => ?_
    · have z := I.tb
      rw [q, hd0] at z
      cases z
    · rcases stored_mem m with m | ⟨z, mz, rfl, hz⟩ | rfl
      · exact (I.kok y m).mono eS
      · obtain ⟨hs', q1, q2⟩ := (I.kok z mz).mono eS
        exact ⟨hs', q1, q2⟩
      · exact ⟨doneM hs o, rfl, r6.mono eS⟩
    · rw [stored_keys I.keys, keysTo_next ho]
    · rcases stored_mem m with m | ⟨z, mz, rfl, hz⟩ | rfl
      · obtain ⟨b, ws', q1, q2, q3⟩ := I.vals y m
        exact ⟨b, ws', q1, eS _ _ q2, Nat.le_succ_of_le q3⟩
      · exact ⟨p3, _, rfl, new3, by simp; omega⟩
      · exact ⟨p3, _, rfl, new3, by simp; omega⟩
    · by_cases q : b = d
      · rw [q, upd_same]
        exact fun z => nomatch z
      · rw [upd_ne q]
        intro z
        cases w : H b with
        | none => exact hS b m w
        | some u => rw [e5 b u w] at z; cases z
  refine ⟨.ref d, s4, d, es, rfl, hd0, (fun y m => (I.kok y m).mono hid_sub), .ref b6, s6, Nat.zero_le _, fun p hp => ?_⟩
  have e3 : Ex H (upd H p (.lst [])) := Ex.new hp
  refine ⟨doneM hs o, b6, rfl, r6.mono (fun b u z => e3 b u (hid_sub b u z)), e3 _ _ hd0, (fun y m => (I.kok y m).mono (fun b u z => e3 b u (hid_sub b u z))), fun q v hq rv => ?_, fun q hq => ?_, fun _ => tail _ e3 p [] upd_same (Nat.zero_le _)⟩
  · unfold atKey at hq
    cases hf : es.find? (fun x => decide (x.1 = keyH (doneM hs o))) with
    | none => rw [hf] at hq; cases hq
    | some y =>
      rw [hf] at hq
      have eq : y.2 = q := Option.some.inj hq
      obtain ⟨b, ws, q1, q2, q3⟩ := I.vals y (List.mem_of_find?_eq_some hf)
      rw [← eq, q1] at rv
      rw [relV_ref rv]
      exact tail _ e3 b ws (e3 _ _ (hid_sub _ _ q2)) q3
  · unfold atKey at hq
    cases hf : es.find? (fun x => decide (x.1 = keyH (doneM hs o))) with
    | none => rw [hf] at hq; cases hq
    | some y =>
      rw [hf] at hq
      have eq : y.2 = q := Option.some.inj hq
      obtain ⟨b, ws, q1, q2, q3⟩ := I.vals y (List.mem_of_find?_eq_some hf)
      rw [← eq, q1]
      exact ⟨.ref b, rfl⟩
end DL
end Part_PC6
section Part_PC7
set_option Elab.async false
set_option linter.all false
set_option maxRecDepth 100000
set_option maxHeartbeats 4000000
set_option autoImplicit false
namespace DL
open PySem PySem.Spec PyProof.Rows L2 Evl
theorem RepS.monoN {H H' : Hp} {σ : L2.St} {ρ : En} (e : ExN H H') (h : RepS H σ ρ) : RepS H' σ ρ := ⟨h.len, fun i d q => by
  obtain ⟨v, h1, h2⟩ := h.at' i d q
  exact ⟨v, h1, h2.monoN e⟩⟩
theorem hid_monoN {H H' : Hp} {S : List Addr} (e : ExN H H') : ExN (hid H S) (hid H' S) := fun a o h n => by
  have na : a ∉ S := fun m => by
    unfold hid at h
    rw [if_pos m] at h
    cases h
  exact hid_of (e a o (hid_sub a o h) n) na
theorem kok_reps {H : Hp} : ∀ {es : List KEn} {ks : List Hands}, (∀ y ∈ es, KOk H y) → es.map (·.1) = ks.map keyH → Reps H (ks.map dHs) (es.map fun y => V.ref y.2.1)
  | [], [], _, _ => rfl
  | [], _ :: _, _, h => by simp at h
  | _ :: _, [], _, h => by simp at h
  | y :: es, k :: ks, hk, h => by
    simp only [List.map_cons, List.cons.injEq] at h
    obtain ⟨hs, q1, q2⟩ := hk y (List.mem_cons_self ..)
    have e : hs = k := keyH_inj (q1.symm.trans h.1)
    subst e
    exact ⟨_, _, rfl, q2, kok_reps (fun z m => hk z (List.mem_cons_of_mem _ m)) h.2⟩
/-- due = sorted(list(found)) -/
theorem due_step {P : Program} {w : World} {K : PySem.W.Frag} {r d : Addr} {hs : Hands} {H : Hp} {es : List KEn} {σ : L2.St} {Dn : Ends} (fo : H d = some (FO P w d es)) (kok : ∀ y ∈ es, KOk (hid H [r, d]) y) (keys : es.map (·.1) = (keysM hs).map keyH) (hne : ∀ e ∈ keysM hs, e ≠ []) (hS : InD [r, d] H) (h4 : σ[4]? = some (some (.ref d)))
    (hl : es.length ≤ 1000) (k : ∀ v H', Ex H H' → Rep (hid H' [r, d]) (.lst ((dueM hs).map dHs)) v → Dn.nx (σ.set 7 (some v)) H') :
    tAsg (tCB (rSortH K) (tCons (tCB (fun vs H Q => ∃ d xs, vs = [.ref d] ∧ H d = some (FO P w d xs) ∧ (∀ y ∈ xs, KOk H y) ∧ ∀ p, H p = none → Q (.ref p) (upd H p (.lst (xs.map fun y => V.ref y.2.1)))) (tCons (tVar 4) tNil)) tNil)) (gName 7) Dn σ H := by
  refine ⟨.ref d, h4, d, es, rfl, fo, (fun y m => (kok y m).mono hid_sub), fun p hp => ?_⟩
  have hS1 : InD [r, d] (upd H p (.lst (es.map fun y => V.ref y.2.1))) := hS.mono (Ex.new hp)
  refine rc_sortH [r, d] [.lst ((keysM hs).map dHs)] (.lst ((dueM hs).map dHs)) [.ref p] _ _ hS1 ⟨_, _, rfl, new_lst hS hp (kok_reps kok keys), rfl⟩ ?_ fun v H2 e2 r2 => k v H2 ((Ex.new hp).trans e2) r2
  have e : sortHG [.lst ((keysM hs).map dHs)] = (handsOf ((keysM hs).map dHs)).map fun hss => DL.D.lst ((hss.mergeSort leH).map dHs) := rfl
  rw [e, handsOf_map _ hne]
  rfl
/-- if not alike(told(..), ..): return False -/
theorem told_step {σ : L2.St} {H : Hp} {Dn : Ends} {S : List Addr} {ρ : En} {Tb : List (Addr × Str)} {G : List D → Option (Option D)} {fa : En → Option (List D)} {fx : En → Option D} {ds : List DL.D} {r : Option DL.D} (hT : LamX.Tabs Tb H) (hS : ∀ b ∈ S, ∃ xs, H b = some (.lst xs)) (hr : RepS (hid H S) σ ρ) (ha : fa ρ = some ds) (hl : ds.length = 2) (hg : G ds = some r) (hx : fx ρ = some (r.getD .non)) (hm : dSm 5 (r.getD .non) = true)
    (k : ∀ H', ExN H H' → LamX.Tabs Tb H' → Dn.nx σ H') : tIfS (tNot (tB (tCall (spD 2 (alG 6)) [] C8.E0 (tCons (tTold Tb G fa) (tCons (tD fx) tNil))))) (tRet (tC (.bl false))) tNext Dn σ H := by
  refine ⟨hT, fun H1 e1 t1 => ?_⟩
  have e1' : ExN H H1 := e1
  have hS1 : InD S H1 := fun b m z => by
    obtain ⟨xs, q⟩ := hS b m
    rw [e1 b _ q (fun _ z => nomatch z)] at z
    cases z
  have hr1 := hr.monoN (hid_monoN (S := S) e1')
  refine ⟨ρ, S, ds, r, hS1, hr1, ha, hl, hg, fun v H2 e2 r2 => ⟨ρ, S, r.getD .non, hS1.mono e2, hr1.mono (hid_mono e2), hx, fun v2 H3 e3 r3 => ?_⟩⟩
  refine ⟨S, [r.getD .non, r.getD .non], .bl true, (hS1.mono e2).mono e3, ⟨v, _, rfl, r2.mono (hid_mono e3), v2, _, rfl, r3, rfl⟩, rfl, al_ok 5 _ hm, fun v4 H4 e4 r4 => ⟨true, r4, ?_⟩⟩
  refine iteF ?_
  exact k H4 (e1'.trans (.of ((e2.trans e3).trans e4))) (t1.ext fun b o q => e4 b o (e3 b o (e2 b o q)))
/-- away = [taken(row, len(hands)) for thing in range(8)] -/
theorem away_step {K : PySem.W.Frag} {a r : Addr} {hs : Hands} {H : Hp} {σ : L2.St} {Dn : Ends} {z0 z3 z4 z5 z6 z7 z8 z9 z10 z11 z12 z13 z14 z15 : Option DL.D} {ψ : Hp → Prop} (h1 : 1 ≤ hs.length) (h5 : hs.length ≤ 5) (row : RowAt K a H r) (hS : InD [r] H) (hr : RepS (hid H [r]) σ [z0, some (.adr r ψ), some (dHs hs), z3, z4, z5, z6, z7, z8, z9, z10, z11, z12, z13, z14, z15])
    (k : ∀ (aw : List Int) v H', aw.length = 8 → Off r H H' → RowAt K a H' r → Rep (hid H' [r]) (.lst (aw.map .int)) v → Dn.nx (σ.set 9 (some v)) H') :
    tAsg (tLc (iRng1 (tCons (tC (.int 8)) tNil)) (gName 8) tYes (tCall (spTaken K) [] C8.E0 (tCons (tVar 1) (tCons (tD (bE lenG (consE (vE 2) nilE))) tNil))) [8]) (gName 9) Dn σ H := by
  obtain ⟨v1, s1, r1⟩ := hr.at' 1 _ rfl
  have e1 : v1 = .ref r := r1.1
  subst e1
  refine ⟨8, rfl, by decide, by decide, fun Dl hD => ?_⟩
  have nDr : Dl ≠ r := fun z => by
    obtain ⟨_, _, _, _, g, _⟩ := row
    rw [z, g] at hD
    cases hD
  refine lc_range (fun i H' => RowAt K a H' r ∧ Off r H H' ∧ ∃ xs : List Int, H' Dl = some (.lst (xs.map V.int)) ∧ xs.length = i) ?_ ?_ ?_
  · have o6 : Off r H (upd H Dl (.lst [])) := fun b o _ e => by rw [upd_ne (ne_of_none e hD)]; exact e
    exact ⟨row_same row o6 row (upd_ne nDr.symm), o6, [], upd_same, rfl⟩
  · rintro i H2 hi ⟨row2, o2, xs, hx, hxl⟩
    have w1 : ((wipe σ [8]).set 8 (some (.int (0 + (i : Int)))))[1]? = some (some (.ref r)) := by
      show ((σ.set 8 none).set 8 _)[1]? = _
      rw [List.getElem?_set_ne (by decide), List.getElem?_set_ne (by decide)]
      exact s1
    have hS2 : InD [r, Dl] H2 := fun b m z => by
      rcases List.mem_cons.mp m with q | m
      · obtain ⟨_, _, _, _, g, _⟩ := row2
        rw [q, g] at z
        cases z
      · rw [List.mem_singleton.mp m, hx] at z
        cases z
    have hrr : RepS (hid H2 [r, Dl]) ((wipe σ [8]).set 8 (some (.int (0 + (i : Int))))) [z0, some (.adr r ψ), some (dHs hs), z3, z4, z5, z6, z7, none, z9, z10, z11, z12, z13, z14, z15] := by
      have q : RepS (hid H2 [r, Dl]) σ [z0, some (.adr r ψ), some (dHs hs), z3, z4, z5, z6, z7, z8, z9, z10, z11, z12, z13, z14, z15] := hr.mono fun b o z => by
        have nb : b ∉ [r] := fun m => by
          unfold hid at z
          rw [if_pos m] at z
          cases z
        have hb := hid_sub b o z
        refine hid_of (o2 b o (fun q => nb (by simp [q])) hb) fun m => ?_
        rcases List.mem_cons.mp m with q | m
        · exact nb (by simp [q])
        · rw [List.mem_singleton.mp m, hD] at hb
          cases hb
      exact (q.wipe [8]).any (i := 8)
    refine ⟨?_, ?_⟩
    · show ((σ.set 8 none).set 8 (some (V.int (0 + (i : Int))))).set 8 none = σ.set 8 none
      rw [List.set_set, List.set_set]
    unfold tYes
    dsimp only
    rw [if_pos rfl]
    refine ⟨.ref r, w1, _, _, .int (hs.length : Nat), hS2, hrr, (bE_eq (cons1 rfl)).trans (len_hs hs), fun v H3 e3 r3 => ?_⟩
    have ev : v = V.int (hs.length : Nat) := r3
    subst ev
    refine ⟨r, a, (hs.length : Nat), rfl, by omega, by omega, row_ex row2 e3, fun j H4 j0 j1 o4 row4 => ?_⟩
    have hx4 : H4 Dl = some (.lst (xs.map V.int)) := o4 Dl _ nDr (e3 _ _ hx)
    refine ⟨xs.map V.int, hx4, ?_, ?_⟩
    · rw [List.length_map]
      exact cap_lt (by have : cap = 100000 := rfl; omega)
    · have o5 : Off r H (upd H4 Dl (.lst (xs.map V.int ++ [.int j]))) := fun b o nb e => by
        rw [upd_ne (ne_of_none e hD)]
        exact o4 b o nb (e3 b o (o2 b o nb e))
      refine ⟨row_same row o5 row4 (upd_ne nDr.symm), o5, xs ++ [j], ?_, by simp [hxl]⟩
      rw [upd_same, List.map_append]
      rfl
  · rintro H2 ⟨row2, o2, xs, hx, hxl⟩
    exact k xs _ H2 hxl o2 row2 ⟨Dl, xs.map V.int, rfl, hid_of hx (by simp [nDr]), ints_reps xs⟩
end DL
namespace DL
open PySem PySem.Spec PyProof.Rows L2 Evl
theorem dSm_prs {ps : List (Int × Int)} (h : ps.length ≤ 100000) : dSm 5 (.tup (ps.map dPr)) = true := by
  have e : dSms 4 (ps.map dPr) = true := dSms_of fun d m => by
    obtain ⟨p, _, rfl⟩ := List.mem_map.mp m
    exact dSm_row 3 (h := [p.1, p.2]) (show 2 ≤ 100000 by decide)
  unfold dSm
  rw [e, decide_eq_true (ocap (by rw [List.length_map]; exact h))]
  rfl
theorem usortP_len (ps : List (Int × Int)) : (usortP ps).length ≤ ps.length := by
  unfold usortP
  rw [List.length_map]
  have nd : (usort (ps.map cd)).Nodup := (usort_lt _).imp fun {a b} z e => by omega
  have := nodup_le (us := ps.map cd) nd fun k m => (usort_mem k _).mp m
  rw [List.length_map] at this
  exact this
end DL
end Part_PC7
section Part_PC8
set_option Elab.async false
set_option linter.all false
set_option maxRecDepth 100000
set_option maxHeartbeats 8000000
set_option autoImplicit false
namespace DL
open PySem PySem.Spec PyProof.Rows L2 Evl
def spLaw (K : PySem.W.Frag) (Pt : Addr) : Sp := fun vs H Q _ => ∃ (a : Addr) (ns : List Int), vs = [.ref a] ∧ H Pt = some (.tbl #[]) ∧ SqL K H a (ns.map V.int) ∧ ns.length ≤ 63 ∧ ∀ H', Q (.bl true) H'
def top : Hp → Prop := fun _ => True
theorem rep_top {H : Hp} {a : Addr} : Rep H (.adr a top) (.ref a) := ⟨rfl, fun _ _ => trivial⟩
section
variable {P : Program} {w : World} {K : PySem.W.Frag} {mg : Str → Option Value} {base : Heap}
theorem ok_law {C CH c Pt f : Addr} {oc kV doc pm ct : Value} {od an : Option Addr} {osl : Array (Option Value)} (hLF : ∀ hs, HandsOk hs → LF hs) (T : Txt K mg) (TX : TxtX K mg C CH) (TB : LamX.TabB base mg c Pt)
    (lk : K.lookup f = some ⟨oc, od, .func (PySem.W.fnOf "law" "law" (defArgs s_law) (defBody s_law) (defScope s_law) .none kV doc pm an (.ref c) ct), osl⟩) (hcd : PySem.W.codeIn K (.ref c) "law" = true) :
    FnOk P w K mg base CX0 20 f (PySem.W.fnOf "law" "law" (defArgs s_law) (defBody s_law) (defScope s_law) .none kV doc pm an (.ref c) ct) ["_law_script"] (spLaw K Pt) := by
  refine fn_of lk hcd sc_law (fun vs H Q E h => ?_) (fun A outer s H vs Q E hr h => ?_)
  · obtain ⟨a, ns, rfl, _⟩ := h
    rfl
  · have key : ∃ t, PSs (cxOf CX0 P w K mg base ["_law_script", "_law_row", "_law_hands_here", "_law_orders_here", "_law_found", "_law_order", "_law_there", "_law_due", "_law_thing", "_law_away", "_law_other", "_law_end", "_law_told_here", "_law_steps", "_law_keeper", "_law_person"] "law" (defScope s_law) f (.ref c) A outer s H E).nox (defBody s_law) t ∧ t { nx := fun _ H' => Q .non H', rt := Q } (L2.start ["_law_script", "_law_row", "_law_hands_here", "_law_orders_here", "_law_found", "_law_order", "_law_there", "_law_due", "_law_thing", "_law_away", "_law_other", "_law_end", "_law_told_here", "_law_steps", "_law_keeper", "_law_person"] vs) H := by
      refine ⟨_, pss_cons (ps_set (i := 1) sc_law.nd rfl (by first | exact .inl rfl | exact .inr rfl) (pe_lst (pa_cons (pv 0) (pa_cons pe_int (pa_cons pe_int (pa_cons pe_int pa_nil))))))
      (pss_cons (ps_set (i := 2) sc_law.nd rfl (by first | exact .inl rfl | exact .inr rfl) (C8.pe_c (c_hands T) hr (by decide) (by rfl) (pa_cons (pv 1) (pa_cons pe_int (pa_cons pe_int pa_nil)))))
      (pss_cons (ps_par (i := 3) (j := 4) rfl sc_law.nd rfl rfl (by decide) rfl rfl (pa_cons (de_call (c__law_orders T) hr (by decide) (by rfl) (da_cons (de_callB rc_len call_len_seq (by rfl) T.z_len bt_len (da_cons (de_var (pv 2)) da_nil)) da_nil)) (pa_cons pe_fnew pa_nil)) (by rfl))
      (pss_cons (ps_for PassesOwn.never rfl (pi_list (pv 3)) (pg_name (i := 5) sc_law.nd rfl (by first | exact .inl rfl | exact .inr rfl)) (pss_cons (ds_set (Ew := fun _ => False) (i := 6) sc_law.nd rfl (by first | exact .inl rfl | exact .inr rfl) (de_call (c__law_done T) hr (by decide) (by rfl) (da_cons (de_var (pv 2)) (da_cons (de_var (pv 5)) da_nil)))) (pss_one (ps_asg (pe_op op_cat (pe_fget hr.units (pv 4) (pv 6) (pe_lst pa_nil) ⟨by rfl, by rfl, by rfl, by rfl⟩) (pe_lst (pa_cons (pv 5) pa_nil))) (pg_sub (pv 4) (pv 6) (set_fo hr.units) (by intro _; rfl))))))
      (pss_cons (ps_set (i := 7) sc_law.nd rfl (by first | exact .inl rfl | exact .inr rfl) (pe_callB (cr_sortH hr.units) (by rfl) T.z_sorted bt_sorted (pa_cons (pe_callTy (cr_listF rfl) (by rfl) T.z_list bt_list (pa_cons (pv 4) pa_nil)) pa_nil)))
      (pss_cons (ds_if (Ew := fun _ => False) (PW.pt (dw_or (dt_not (dt_val (de_call (c_alike T 6) hr (by decide) (by rfl) (da_cons (de_call (c_ends T) hr (by decide) (by rfl) (da_cons (de_var (pv 2)) da_nil)) (da_cons (de_var (pv 7)) da_nil))))) (dw_or1 (dt_not (dt_val (de_call (c_alike T 6) hr (by decide) (by rfl) (da_cons (de_call (c_count_ends T) hr (by decide) (by rfl) (da_cons (de_var (pv 2)) da_nil)) (da_cons (de_callB rc_len call_len_seq (by rfl) T.z_len bt_len (da_cons (de_var (pv 7)) da_nil)) da_nil)))))))) (dss_one (ds_ret (de_bl pe_bl))) ds_nil)
      (pss_cons (ds_if (Ew := fun _ => False) (PW.pt (dw_or (dt_not (dt_val (de_call (c_alike T 6) hr (by decide) (by rfl) (da_cons (de_call (c_least_end T) hr (by decide) (by rfl) (da_cons (de_var (pv 2)) da_nil)) (da_cons (de_ix (de_var (pv 7)) (de_int pe_int)) da_nil))))) (dw_or1 (dt_not (dt_val (de_call (c_alike T 6) hr (by decide) (by rfl) (da_cons (de_call (c_greatest_end T) hr (by decide) (by rfl) (da_cons (de_var (pv 2)) da_nil)) (da_cons (de_ix (de_var (pv 7)) de_neg) da_nil)))))))) (dss_one (ds_ret (de_bl pe_bl))) ds_nil)
      (pss_cons (ps_set (i := 5) sc_law.nd rfl (by first | exact .inl rfl | exact .inr rfl) (C8.pe_c (c_pick T) hr (by decide) (by rfl) (pa_cons (pv 1) (pa_cons (pv 3) pa_nil))))
      (pss_cons (ds_if (Ew := fun _ => False) (dt_not (dt_val (de_call (c_alike T 6) hr (by decide) (by rfl) (da_cons (de_call (c_end_of T) hr (by decide) (by rfl) (da_cons (de_var (pv 2)) (da_cons (de_var (pv 5)) da_nil))) (da_cons (de_call (c__law_done T) hr (by decide) (by rfl) (da_cons (de_var (pv 2)) (da_cons (de_var (pv 5)) da_nil))) da_nil))))) (dss_one (ds_ret (de_bl pe_bl))) ds_nil)
      (pss_cons (ds_for (Ew := fun _ => False) PassesOwn.never rfl (di_list (de_call (c_things T) hr (by decide) (by rfl) (da_cons (de_var (pv 2)) da_nil))) (pg_name (i := 8) sc_law.nd rfl (by first | exact .inl rfl | exact .inr rfl)) gd_nm (dss_one (ds_if (dt_not (dt_val (de_call (c_alike T 6) hr (by decide) (by rfl) (da_cons (de_call (c_can_keep T) hr (by decide) (by rfl) (da_cons (de_var (pv 2)) (da_cons (de_var (pv 8)) da_nil))) (da_cons (de_callTy rc_tuple call_tuple_of (by rfl) T.z_tuple bt_tuple (da_cons (de_usort rfl (by rfl) T.z_sorted (by rfl) T.z_set (de_lc [("_law_end", 11)] rfl sc_law.nd (di_list (de_var (pv 7))) (by kernel_rfl) (fun _ _ _ _ _ => (pg_name (i := 11) sc_law.nd rfl (by first | exact .inl rfl | exact .inr rfl))) gd_nm bt_nil (fun _ _ _ _ _ => (de_ix (de_call (c__law_holders T) hr (by decide) (by rfl) (da_cons (de_var (pv 11)) (da_cons (de_var (pv 8)) da_nil))) (de_int pe_int))) (by decide))) da_nil)) da_nil))))) (dss_one (ds_ret (de_bl pe_bl))) ds_nil)))
      (pss_cons (ps_set (i := 9) sc_law.nd rfl (by first | exact .inl rfl | exact .inr rfl) (pe_lc (own := [("_law_thing", 8)]) rfl sc_law.nd (pi_range1 (by rfl) T.z_range (pa_cons pe_int pa_nil)) (blkOk_by (by kernel_rfl)) (fun _ _ _ _ _ => pg_name (i := 8) sc_law.nd rfl (by first | exact .inl rfl | exact .inr rfl)) (fun _ _ _ _ _ => pts_nil) (fun _ _ _ _ _ => (C8.pe_c (c_taken T) hr (by decide) (by rfl) (pa_cons (pv 1) (pa_cons (de_callB rc_len call_len_seq (by rfl) T.z_len bt_len (da_cons (de_var (pv 2)) da_nil)) pa_nil))))))
      (pss_cons (ds_set (Ew := fun _ => False) (i := 10) sc_law.nd rfl (by first | exact .inl rfl | exact .inr rfl) (de_callTy rc_tuple call_tuple_of (by rfl) T.z_tuple bt_tuple (da_cons (de_lc [("_law_person", 15)] rfl sc_law.nd (di_rng1 (by rfl) T.z_range (da_cons (de_callB rc_len call_len_seq (by rfl) T.z_len bt_len (da_cons (de_var (pv 2)) da_nil)) da_nil)) (by kernel_rfl) (fun _ _ _ _ _ => (pg_name (i := 15) sc_law.nd rfl (by first | exact .inl rfl | exact .inr rfl))) gd_nm bt_nil (fun _ _ _ _ _ => (de_callTy rc_tuple call_tuple_of (by rfl) T.z_tuple bt_tuple (da_cons (de_lc [("_law_thing", 8)] rfl sc_law.nd (di_list (de_call (c_things T) hr (by decide) (by rfl) (da_cons (de_var (pv 2)) da_nil))) (by kernel_rfl) (fun _ _ _ _ _ => (pg_name (i := 8) sc_law.nd rfl (by first | exact .inl rfl | exact .inr rfl))) gd_nm (bt_one fun _ _ _ _ _ => (dt_cmp rd_eq (op_eqD hr.units) (de_ix (de_var (pv 9)) (de_var (pv 8))) (de_var (pv 15)) (nomark _))) (fun _ _ _ _ _ => (de_var (pv 8))) (by decide)) da_nil))) (by decide)) da_nil)))
      (pss_cons (ps_for PassesOwn.never rfl (pi_list (pe_lst (pa_cons (C8.pe_c (c_pick T) hr (by decide) (by rfl) (pa_cons (pv 1) (pa_cons (pv 7) pa_nil))) (pa_cons (pv 10) pa_nil)))) (pg_name (i := 11) sc_law.nd rfl (by first | exact .inl rfl | exact .inr rfl))
      (pss_cons (ps_any fun d φ ks (hφ : GoodF P w d φ ks) => (ds_if (Ew := fun _ => False) (dt_not (dt_val (de_call (c_alike T 6) hr (by decide) (by rfl) (da_cons (de_call (c_can_end T) hr (by decide) (by rfl) (da_cons (de_var (pv 2)) (da_cons (de_var (pv 11)) da_nil))) (da_cons (de_cmp (rd_inF hφ) (op_inF hr.units) (de_var (pv 11)) (de_var (pv 4)) (by rfl)) da_nil))))) (dss_one (ds_ret (de_bl pe_bl))) ds_nil))
      (pss_cons (ds_set (Ew := fun _ => False) (i := 12) sc_law.nd rfl (by first | exact .inl rfl | exact .inr rfl) (de_callTy rc_tuple call_tuple_of (by rfl) T.z_tuple bt_tuple (da_cons (de_lc [("_law_thing", 8)] rfl sc_law.nd (di_list (de_call (c_things T) hr (by decide) (by rfl) (da_cons (de_var (pv 11)) da_nil))) (by kernel_rfl) (fun _ _ _ _ _ => (pg_name (i := 8) sc_law.nd rfl (by first | exact .inl rfl | exact .inr rfl))) gd_nm bt_nil (fun _ _ _ _ _ => (de_tup (da_cons (de_var (pv 8)) (da_cons (de_ix (de_call (c__law_holders T) hr (by decide) (by rfl) (da_cons (de_var (pv 11)) (da_cons (de_var (pv 8)) da_nil))) (de_int pe_int)) da_nil)))) (by decide)) da_nil)))
      (pss_cons (ps_any fun d φ ks (hφ : GoodF P w d φ ks) => (ps_if (pt_not (pt_val (C8.pe_c (c_alike T 6) hr (by decide) (by rfl) (pa_cons (p_told T TX TB (G := G_keepers) (by rfl) (by rfl) hr (fun A outer s H E f c2 hr2 => p_lam (c_keepers T TX) (hr2.mono (by decide)) (by rfl) (by rfl))) (pa_cons (de_if (dt_cmp (rd_inF hφ) (op_inF hr.units) (de_var (pv 11)) (de_var (pv 4)) (by rfl)) (de_var (pv 12)) (de_non pe_non)) pa_nil))))) (pss_one (ps_ret pe_bl)) pss_nil))
      (pss_cons (ds_set (Ew := fun _ => False) (i := 13) sc_law.nd rfl (by first | exact .inl rfl | exact .inr rfl) (de_lst da_nil))
      (pss_cons (ps_any fun d φ ks (hφ : GoodF P w d φ ks) => (ds_for (Ew := fun _ => False) PassesOwn.never rfl (di_tup (de_if (dt_cmp (rd_inF hφ) (op_inF hr.units) (de_var (pv 11)) (de_var (pv 4)) (by rfl)) (de_var (pv 12)) (de_tup da_nil))) (pg_tup rfl (pgs_cons (pg_name (i := 8) sc_law.nd rfl (by first | exact .inl rfl | exact .inr rfl)) (pgs_cons (pg_name (i := 14) sc_law.nd rfl (by first | exact .inl rfl | exact .inr rfl)) pgs_nil))) gd_pr (dss_one (ds_set (i := 13) sc_law.nd rfl (by first | exact .inl rfl | exact .inr rfl) (de_op rd_catL op_cat (de_var (pv 13)) (de_lc [("_law_person", 15)] rfl sc_law.nd (di_list (de_call (c__law_holders T) hr (by decide) (by rfl) (da_cons (de_var (pv 2)) (da_cons (de_var (pv 8)) da_nil)))) (by kernel_rfl) (fun _ _ _ _ _ => (pg_name (i := 15) sc_law.nd rfl (by first | exact .inl rfl | exact .inr rfl))) gd_nm (bt_one fun _ _ _ _ _ => (dt_cmp rd_ne (op_neD hr.units) (de_var (pv 15)) (de_var (pv 14)) (nomark _))) (fun _ _ _ _ _ => (de_tup (da_cons (de_var (pv 15)) (da_cons (de_var (pv 14)) da_nil)))) (by decide)))))))
      (pss_one (ps_any fun d φ ks (hφ : GoodF P w d φ ks) => (ps_if (pt_not (pt_val (C8.pe_c (c_alike T 6) hr (by decide) (by rfl) (pa_cons (p_told T TX TB (G := G_ahead) (by rfl) (by rfl) hr (fun A outer s H E f c2 hr2 => p_lam (c_ahead T TX) (hr2.mono (by decide)) (by rfl) (by rfl))) (pa_cons (de_if (dt_cmp (rd_inF hφ) (op_inF hr.units) (de_var (pv 11)) (de_var (pv 4)) (by rfl)) (de_callTy rc_tuple call_tuple_of (by rfl) T.z_tuple bt_tuple (da_cons (de_usortT rfl (by rfl) T.z_sorted (by rfl) T.z_set hr.units (de_var (pv 13))) da_nil)) (de_non pe_non)) pa_nil))))) (pss_one (ps_ret pe_bl)) pss_nil)))))))))
      (pss_one (ps_ret pe_bl)))))))))))))), ?_⟩
      generalize (cxOf CX0 P w K mg base ["_law_script", "_law_row", "_law_hands_here", "_law_orders_here", "_law_found", "_law_order", "_law_there", "_law_due", "_law_thing", "_law_away", "_law_other", "_law_end", "_law_told_here", "_law_steps", "_law_keeper", "_law_person"] "law" (defScope s_law) f (.ref c) A outer s H E).nox.env.qual = qn
      obtain ⟨a, ns, rfl, htb, hscr, hlen, q⟩ := h

      -- row = [script, 0, 9704, 0]
      refine ⟨.ref a, rfl, (by decide : 4 ≤ sizeLine), fun r hr0 => ?_⟩
      have x1 : Ex H (upd H r (.lst [.ref a, .int 0, .int 9704, .int 0])) := Ex.new hr0
      have row1 : RowAt K a (upd H r (.lst [.ref a, .int 0, .int 9704, .int 0])) r := by
        refine ⟨ns, 0, 9704, 0, upd_same, ?_, hlen, by decide, by decide, by decide⟩
        rcases hscr with (h | ⟨o, h⟩) | h
        · exact .inl (.inl (x1 _ _ h))
        · exact .inl (.inr ⟨o, x1 _ _ h⟩)
        · exact .inr h
      have tb1 := x1 _ _ htb
      generalize upd H r (.lst [.ref a, .int 0, .int 9704, .int 0]) = H1 at row1 tb1 ⊢
      -- hands = _law_hands(row, 5, 6)
      refine ⟨.ref r, rfl, r, a, rfl, row1, fun hs vh H2 hok o2 row2 rh => ?_⟩
      have L := hLF hs hok
      have hn1 := hok.lo
      have hn5 := hok.hi
      have npr : Pt ≠ r := fun z => by
        obtain ⟨_, _, _, _, g, _⟩ := row1
        rw [z, g] at tb1
        cases tb1
      have tb2 := o2 Pt _ npr tb1
      have hS2 : InD [r] H2 := fun b m z => by
        obtain ⟨_, _, _, _, g, _⟩ := row2
        rw [List.mem_singleton.mp m, g] at z
        cases z
      have rs2 : RepS (hid H2 [r]) [some (.ref a), some (.ref r), some vh, none, none, none, none, none, none, none, none, none, none, none, none, none] [some (.adr a top), some (.adr r top), some (dHs hs), none, none, none, none, none, none, none, none, none, none, none, none, none] := by
        refine ⟨rfl, fun i d hd => ?_⟩
        match i, hd with
        | 0, hd => cases hd; exact ⟨_, rfl, rep_top⟩
        | 1, hd => cases hd; exact ⟨_, rfl, rep_top⟩
        | 2, hd => cases hd; exact ⟨_, rfl, rh⟩
        | 3, hd => cases hd
        | 4, hd => cases hd
        | 5, hd => cases hd
        | 6, hd => cases hd
        | 7, hd => cases hd
        | 8, hd => cases hd
        | 9, hd => cases hd
        | 10, hd => cases hd
        | 11, hd => cases hd
        | 12, hd => cases hd
        | 13, hd => cases hd
        | 14, hd => cases hd
        | 15, hd => cases hd
        | n + 16, hd => simp at hd
      -- orders, found = _law_orders(len(hands)), {}
      refine ⟨_, [r], .lst ((ordersM hs.length).map dRow), hS2, rs2, (callE_eq (cons1 ((bE_eq (cons1 rfl)).trans (len_hs hs))) rfl).trans L.orders, fun vo H3 x3 ro d hd => ⟨vo, .ref d, rfl, ?_⟩⟩
      have row3 := row_ex row2 x3
      have tb3 := x3 _ _ tb2
      have x4 : Ex H3 (upd H3 d (FO P w d [])) := Ex.new hd
      have row4 := row_ex row3 x4
      have tb4 := x4 _ _ tb3
      have hS4 : InD [r, d] (upd H3 d (FO P w d [])) := fun b m z => by
        rcases List.mem_cons.mp m with e | m
        · obtain ⟨_, _, _, _, g, _⟩ := row4
          rw [e, g] at z
          cases z
        · rw [List.mem_singleton.mp m, upd_same] at z
          cases z
      have hid4 : Ex (hid H2 [r]) (hid (upd H3 d (FO P w d [])) [r, d]) := fun b o z => by
        have nb : b ∉ [r] := fun m => by
          unfold hid at z
          rw [if_pos m] at z
          cases z
        have hb := x3 _ _ (hid_sub b o z)
        refine hid_of (x4 _ _ hb) fun m => ?_
        rcases List.mem_cons.mp m with e | m
        · exact nb (by simp [e])
        · rw [List.mem_singleton.mp m, hd] at hb
          cases hb
      have hid34 : Ex (hid H3 [r]) (hid (upd H3 d (FO P w d [])) [r, d]) := fun b o z => by
        have nb : b ∉ [r] := fun m => by
          unfold hid at z
          rw [if_pos m] at z
          cases z
        have hb := hid_sub b o z
        refine hid_of (x4 _ _ hb) fun m => ?_
        rcases List.mem_cons.mp m with e | m
        · exact nb (by simp [e])
        · rw [List.mem_singleton.mp m, hd] at hb
          cases hb
      have rs4 : RepS (hid (upd H3 d (FO P w d [])) [r, d]) (([some (.ref a), some (.ref r), some vh, none, none, none, none, none, none, none, none, none, none, none, none, none].set 3 (some vo)).set 4 (some (.ref d))) [some (.adr a top), some (.adr r top), some (dHs hs), some (.lst ((ordersM hs.length).map dRow)), some (.adr d top), none, none, none, none, none, none, none, none, none, none, none] :=
        ((rs2.mono hid4).set (ro.mono hid34)).set rep_top
      have I4 : DI P w K a r d Pt hs 0 (upd H3 d (FO P w d [])) [] := ⟨row4, tb4, upd_same, (fun _ m => nomatch m), rfl, (fun _ m => nomatch m), Nat.zero_le _⟩
      obtain ⟨vo', so, ro4⟩ := rs4.at' 3 _ rfl
      obtain ⟨lo, xo, hvo, hlo, hxo⟩ := ro4
      subst hvo
      have hol := L.ocap
      have xol : xo.length = (ordersM hs.length).length := by rw [hxo.len, List.length_map]
      -- for order in orders
      refine ⟨.ref lo, so, lo, rfl, ⟨xo, sq_of (hid_sub lo _ hlo)⟩, for_list (xs := xo) (fun i σ H' => ∃ (es : List KEn), DI P w K a r d Pt hs i H' es ∧ InD [r, d] H' ∧ Ex (hid (upd H3 d (FO P w d [])) [r, d]) (hid H' [r, d]) ∧ RepS (hid H' [r, d]) σ [some (.adr a top), some (.adr r top), some (dHs hs), some (.lst ((ordersM hs.length).map dRow)), some (.adr d top), none, none, none, none, none, none, none, none, none, none, none]) ⟨[], I4, hS4, Ex.refl _, rs4⟩ (fun i σ H' _ ⟨es, _, _, e, _⟩ => sq_of (hid_sub lo _ (e _ _ hlo))) ?_ ?_⟩
      · rintro i x σ H5 hi ⟨es, I5, hS5, e5, rs5⟩
        obtain ⟨d', g1, g2⟩ := hxo.get' hi
        rw [List.getElem?_map] at g1
        cases qo : (ordersM hs.length)[i]? with
        | none => rw [qo] at g1; cases g1
        | some o =>
          rw [qo] at g1
          have ed : dRow o = d' := Option.some.inj g1
          subst ed
          have mo : o ∈ ordersM hs.length := List.mem_of_getElem? qo
          have ile : i < (ordersM hs.length).length := (List.getElem?_eq_some_iff.mp qo).1
          have rs6 := rs5.set (i := 5) (g2.mono e5)
          refine pure_step hS5 rs6 (FL4_ok L mo) fun σ6 H6 x6 rs7 => ?_
          have I6 : DI P w K a r d Pt hs i H6 es := ⟨row_ex I5.row x6, x6 _ _ I5.tb, x6 _ _ I5.fo, fun y m => (I5.kok y m).mono (hid_mono x6), I5.keys, fun y m => (let ⟨b, ws, q1, q2, q3⟩ := I5.vals y m; ⟨b, ws, q1, hid_mono x6 _ _ q2, q3⟩), I5.len⟩
          refine dict_turn I6 (hS5.mono x6) rs7 rfl rfl rfl qo (by omega) fun H7 es' I7 e7 hS7 => ?_
          exact ⟨es', I7, hS7, (e5.trans (hid_mono x6)).trans e7, ((rs7.mono e7).drop 5).drop 6⟩
      · rintro σ H5 ⟨es, I5, hS5, e5, rs5⟩
        rw [xol] at I5
        have keys5 : es.map (·.1) = (keysM hs).map keyH := by
          have z := I5.keys
          unfold keysTo at z
          rw [List.take_length] at z
          exact z
        have dne : ∀ e ∈ keysM hs, e ≠ [] := fun e m z => by
          obtain ⟨o, _, rfl⟩ := keysM_mem.mp m
          have := L.dlen o
          rw [z] at this
          simp at this
          omega
        obtain ⟨v4, s4, r4⟩ := rs5.at' 4 _ rfl
        have e4 : v4 = .ref d := r4.1
        subst e4
        -- due = sorted(list(found))
        refine due_step I5.fo I5.kok keys5 dne hS5 s4 (Nat.le_trans I5.len (by omega)) fun vd H6 x6 rd => ?_
        have row6 := row_ex I5.row x6
        have tb6 := x6 _ _ I5.tb
        have fo6 := x6 _ _ I5.fo
        have nrd : d ≠ r := fun z => by
          obtain ⟨_, _, _, _, g, _⟩ := row6
          rw [z, g] at fo6
          cases fo6
        have less : Ex (hid H6 [r, d]) (hid H6 [r]) := hid_less fun b m => by simp at m; simp [m]
        -- what is known of the dict from here on
        generalize hφ : (fun Hx : Hp => Hx d = some (FO P w d es) ∧ ∀ y ∈ es, KOk Hx y) = φ
        have good : GoodF P w d φ (keysM hs) := fun Hx h => by
          rw [← hφ] at h
          exact ⟨es, h.1, h.2, keys5⟩
        have rφ : Rep (hid H6 [r]) (.adr d φ) (.ref d) := ⟨rfl, fun Hx e => by
          rw [← hφ]
          refine ⟨e _ _ (hid_of fo6 (by simp [nrd])) (fun _ z => nomatch z), fun y m => ?_⟩
          obtain ⟨hs', q1, q2⟩ := I5.kok y m
          exact ⟨hs', q1, ((q2.mono (hid_mono x6)).mono less).monoN e⟩⟩
        have hS6 : InD [r] H6 := fun b m z => by
          obtain ⟨_, _, _, _, g, _⟩ := row6
          rw [List.mem_singleton.mp m, g] at z
          cases z
        have rs6 : RepS (hid H6 [r]) (σ.set 7 (some vd)) [some (.adr a top), some (.adr r top), some (dHs hs), some (.lst ((ordersM hs.length).map dRow)), some (.adr d φ), none, none, some (.lst ((dueM hs).map dHs)), none, none, none, none, none, none, none, none] := by
          have z := (((rs5.mono (hid_mono x6)).mono less).set (i := 7) (rd.mono less)).set (i := 4) rφ
          have e : (σ.set 7 (some vd)).set 4 (some (V.ref d)) = σ.set 7 (some vd) := by
            rw [List.set_comm _ _ (by decide)]
            refine congrArg (fun l : L2.St => l.set 7 (some vd)) (List.ext_getElem? fun j => ?_)
            by_cases hj : 4 = j
            · subst hj
              rw [s4]
              have hl : 4 < σ.length := by
                rw [rs5.len]
                exact (by decide : 4 < 16)
              rw [List.getElem?_set_self hl]
            · rw [List.getElem?_set_ne hj]
          rw [e] at z
          exact z
        -- the two ifs
        refine pure_step hS6 rs6 (FL6_ok L) fun σ7 H7 x7 rs7 => ?_
        refine pure_step (hS6.mono x7) rs7 (FL7_ok L) fun σ8 H8 x8 rs8 => ?_
        have row8 := row_ex (row_ex row6 x7) x8
        have tb8 := x8 _ _ (x7 _ _ tb6)
        have hS8 := (hS6.mono x7).mono x8
        -- order = pick(row, orders)
        obtain ⟨v1, s1, r1⟩ := rs8.at' 1 _ rfl
        have e1 : v1 = .ref r := r1.1
        subst e1
        obtain ⟨v3, s3, r3⟩ := rs8.at' 3 _ rfl
        have oned : 0 < (ordersM hs.length).length := List.length_pos_iff.mpr L.one
        refine ⟨.ref r, s1, v3, s3, r, a, v3, [r], (ordersM hs.length).map dRow, rfl, row8, List.mem_singleton.mpr rfl, hS8, r3, by rw [List.length_map]; exact oned, ocap (by rw [List.length_map]; omega), fun dO vO H9 mO o9 row9 rO => ?_⟩
        obtain ⟨o, mo, rfl⟩ := List.mem_map.mp mO
        have x9 := off_hid (S := [r]) (List.mem_singleton.mpr rfl) o9
        have hS9 : InD [r] H9 := fun b m z => by
          obtain ⟨_, _, _, _, g, _⟩ := row9
          rw [List.mem_singleton.mp m, g] at z
          cases z
        have tb9 := o9 Pt _ npr tb8
        have rs9 := (rs8.mono x9).set (i := 5) rO
        refine pure_step hS9 rs9 (FL9_ok L mo) fun σ10 H10 x10 rs10 => ?_
        obtain ⟨y8, hF10⟩ := FL10_ok L (z0 := some (.adr a top)) (z1 := some (.adr r top)) (z3 := some (.lst ((ordersM hs.length).map dRow))) (z4 := some (.adr d φ)) (z5 := some (dRow o)) (z6 := none) (z8 := none) (z9 := none) (z10 := none) (z11 := none) (z12 := none) (z13 := none) (z14 := none) (z15 := none)
        refine pure_step (hS9.mono x10) rs10 hF10 fun σ11 H11 x11 rs11 => ?_
        have row11 := row_ex (row_ex row9 x10) x11
        have tb11 := x11 _ _ (x10 _ _ tb9)
        have hS11 := (hS9.mono x10).mono x11
        -- away
        refine away_step hn1 hn5 row11 hS11 rs11 fun aw va H12 hal o12 row12 ra => ?_
        have x12 := off_hid (S := [r]) (List.mem_singleton.mpr rfl) o12
        have hS12 : InD [r] H12 := fun b m z => by
          obtain ⟨_, _, _, _, g, _⟩ := row12
          rw [List.mem_singleton.mp m, g] at z
          cases z
        have tb12 := o12 Pt _ npr tb11
        have rs12 := (rs11.mono x12).set (i := 9) ra
        refine pure_step hS12 rs12 (FL12_ok L hal) fun σ13 H13 x13 rs13 => ?_
        have row13 := row_ex row12 x13
        have tb13 := x13 _ _ tb12
        have hS13 := hS12.mono x13
        -- for end in [pick(row, due), other]
        obtain ⟨v1, s1, r1⟩ := rs13.at' 1 _ rfl
        have e1 : v1 = .ref r := r1.1
        subst e1
        obtain ⟨v7, s7, r7⟩ := rs13.at' 7 _ rfl
        obtain ⟨v10, s10, r10⟩ := rs13.at' 10 _ rfl
        have hdl := L.due_len
        have hdp := L.due_pos
        refine ⟨.ref r, s1, v7, s7, r, a, v7, [r], (dueM hs).map dHs, rfl, row13, List.mem_singleton.mpr rfl, hS13, r7, by rw [List.length_map]; exact hdp, ocap (by rw [List.length_map]; omega), fun dE vE1 H14 mE o14 row14 rE => ⟨v10, s10, (by decide : 2 ≤ sizeLine), fun Ls hLs => ?_⟩⟩
        obtain ⟨e1, me1, rfl⟩ := List.mem_map.mp mE
        have x14 := off_hid (S := [r]) (List.mem_singleton.mpr rfl) o14
        have hS14 : InD [r] H14 := fun b m z => by
          obtain ⟨_, _, _, _, g, _⟩ := row14
          rw [List.mem_singleton.mp m, g] at z
          cases z
        have tb14 := o14 Pt _ npr tb13
        have rs14 := rs13.mono x14
        have x15 : Ex H14 (upd H14 Ls (.lst [vE1, v10])) := Ex.new hLs
        have hL15 : (upd H14 Ls (.lst [vE1, v10])) Ls = some (.lst [vE1, v10]) := upd_same
        have row15 := row_ex row14 x15
        have tb15 := x15 _ _ tb14
        have hS15 := hS14.mono x15
        have rs15 := rs14.mono (hid_mono x15)
        have rv15 : Reps (hid (upd H14 Ls (.lst [vE1, v10])) [r]) ([e1, otherM hs aw].map dHs) [vE1, v10] := ⟨_, _, rfl, rE.mono (hid_mono x15), _, _, rfl, r10.mono (x14.trans (hid_mono x15)), rfl⟩
        generalize upd H14 Ls (.lst [vE1, v10]) = H15 at hL15 row15 tb15 hS15 rs15 rv15 ⊢
        obtain ⟨_, _, _, _, hrl, _⟩ := row15
        have hT15 : LamX.Tabs (lamT Pt qn) H15 := fun p m => by
          unfold lamT at m
          rw [List.mem_singleton.mp m]
          exact LamX.TabS.nil tb15
        refine ⟨Ls, rfl, ⟨_, sq_of hL15⟩, for_list (xs := [vE1, v10]) (fun i σ H' => ExN H15 H' ∧ LamX.Tabs (lamT Pt qn) H' ∧ ∃ y8 y11 y12 y13 y14, RepS (hid H' [r]) σ [some (.adr a top), some (.adr r top), some (dHs hs), some (.lst ((ordersM hs.length).map dRow)), some (.adr d φ), some (dRow o), none, some (.lst ((dueM hs).map dHs)), y8, some (.lst (aw.map .int)), some (dHs (otherM hs aw)), y11, y12, y13, y14, none]) ⟨ExN.refl _, hT15, _, _, _, _, _, rs15⟩ (fun i σ H' _ ⟨e, _⟩ => sq_of (e _ _ hL15 (fun _ z => nomatch z))) ?_ (fun _ _ _ => q _)⟩
        rintro i x σ H16 hi ⟨n16, t16, y8, y11, y12, y13, y14, rs16⟩
        obtain ⟨dx, g1, g2⟩ := rv15.get' hi
        obtain ⟨e, lk16, rfl⟩ : ∃ e, Looked hs e ∧ dx = dHs e := by
          have m := List.mem_of_getElem? g1
          obtain ⟨e, me, rfl⟩ := List.mem_map.mp m
          simp only [List.mem_cons, List.not_mem_nil, or_false] at me
          rcases me with h | h
          · exact ⟨e, .inl (by rw [h]; exact me1), rfl⟩
          · exact ⟨e, .inr ⟨aw, h⟩, rfl⟩
        have se := L.look_small lk16
        have inD : ∀ {Hx : Hp}, ExN H15 Hx → InD [r] Hx := fun n b m z => by
          rw [List.mem_singleton.mp m, n _ _ hrl (fun _ z => nomatch z)] at z
          cases z
        have rsA := rs16.set (i := 11) (g2.monoN (hid_monoN n16))
        -- can_end
        refine ⟨d, φ, keysM hs, good, pure_step (inD n16) rsA (FLa_ok L lk16) fun σ17 H17 x17 rs17 => ?_⟩
        have n17 := n16.trans (ExN.of x17)
        -- told = ..
        refine pure_step (inD n17) rs17 (FLb_ok se) fun σ18 H18 x18 rs18 => ?_
        have n18 := n17.trans (ExN.of x18)
        have t18 := (t16.ext fun b u z => x17 b u z).ext fun b u z => x18 b u z
        have lsts : ∀ {Hx : Hp}, ExN H15 Hx → ∀ b ∈ [r], ∃ xs, Hx b = some (.lst xs) := fun n b m => by
          have e := List.mem_singleton.mp m
          subst e
          exact ⟨_, n _ _ hrl (fun _ z => nomatch z)⟩
        have hkp : ∀ t ∈ thingsM e, (holdM e t).headD 0 < 64 ∧ 0 ≤ (holdM e t).headD 0 := fun t m => by
          have := peop_inB se (holdM_peop (head_mem (hold_flat m)))
          exact ⟨this.2, this.1⟩
        have htl : (told1 e).length ≤ 6 := by
          unfold told1
          rw [List.length_map]
          exact things_len se
        -- keepers
        have hfx : fxc d φ (keysM hs) [some (.adr a top), some (.adr r top), some (dHs hs), some (.lst ((ordersM hs.length).map dRow)), some (.adr d φ), some (dRow o), none, some (.lst ((dueM hs).map dHs)), y8, some (.lst (aw.map .int)), some (dHs (otherM hs aw)), some (dHs e), some (.tup ((told1 e).map dPr)), y13, y14, none] = some ((if e ∈ keysM hs then some (DL.D.tup ((told1 e).map dPr)) else none).getD .non) := fxc_ok.trans (by by_cases he : e ∈ keysM hs <;> simp [he])
        unfold fxc at hfx
        refine ⟨d, φ, keysM hs, good, told_step (G := G_keepers) (ds := [dHs hs, dHs e]) (r := if e ∈ keysM hs then some (.tup ((told1 e).map dPr)) else none) t18 (lsts n18) rs18 (cons2 rfl rfl) rfl (L.kee e lk16) hfx ?_ fun H19 nx19 t19 => ?_⟩
        · by_cases he : e ∈ keysM hs
          · rw [if_pos he]
            exact dSm_prs (by omega)
          · rw [if_neg he]
            rfl
        have n19 := n18.trans nx19
        have rs19 := rs18.monoN (hid_monoN nx19)
        -- steps = []
        refine pure_step (inD n19) rs19 (FLd_ok (l := []) (i := .non)) fun σ20 H20 x20 rs20 => ?_
        have n20 := n19.trans (ExN.of x20)
        obtain ⟨w8, w14, hFe⟩ := FLe_ok L se (d := d) (φ := φ) (z0 := some (.adr a top)) (z1 := some (.adr r top)) (z3 := some (.lst ((ordersM hs.length).map dRow))) (z5 := some (dRow o)) (z6 := none) (z7 := some (.lst ((dueM hs).map dHs))) (z8 := y8) (z9 := some (.lst (aw.map .int))) (z10 := some (dHs (otherM hs aw))) (z14 := y14) (z15 := none)
        refine ⟨d, φ, keysM hs, good, pure_step (inD n20) rs20 hFe fun σ21 H21 x21 rs21 => ?_⟩
        have n21 := n20.trans (ExN.of x21)
        have t21 := (t19.ext fun b u z => x20 b u z).ext fun b u z => x21 b u z
        -- ahead
        have hfy : fxf d φ (keysM hs) [some (.adr a top), some (.adr r top), some (dHs hs), some (.lst ((ordersM hs.length).map dRow)), some (.adr d φ), some (dRow o), none, some (.lst ((dueM hs).map dHs)), w8, some (.lst (aw.map .int)), some (dHs (otherM hs aw)), some (dHs e), some (.tup ((told1 e).map dPr)), some (.lst ((if e ∈ keysM hs then stepsM hs (told1 e) else []).map dPr)), w14, none] = some ((if e ∈ keysM hs then some (DL.D.tup ((usortP (stepsM hs (told1 e))).map dPr)) else none).getD .non) := (fxf_ok L se hkp).trans (by by_cases he : e ∈ keysM hs <;> simp [he])
        unfold fxf at hfy
        refine ⟨d, φ, keysM hs, good, told_step (G := G_ahead) (ds := [dHs hs, dHs e]) (r := if e ∈ keysM hs then some (.tup ((usortP (stepsM hs (told1 e))).map dPr)) else none) t21 (lsts n21) rs21 (cons2 rfl rfl) rfl (L.ahe e lk16) hfy ?_ fun H22 nx22 t22 => ?_⟩
        · by_cases he : e ∈ keysM hs
          · rw [if_pos he]
            refine dSm_prs ?_
            have h1 := stepsM_len L.sm (told1 e)
            have h2 := usortP_len (stepsM hs (told1 e))
            omega
          · rw [if_neg he]
            rfl
        exact ⟨n21.trans nx22, t22, _, _, _, _, _, rs21.monoN (hid_monoN nx22)⟩

    obtain ⟨t, h1, h2⟩ := key
    exact ⟨t, h1.nox, h2⟩
end
end DL
end Part_PC8
section Part_PM3
set_option Elab.async false
set_option linter.all false
set_option maxRecDepth 100000
set_option maxHeartbeats 2000000
set_option autoImplicit false
namespace DL
open PySem L2
theorem is_integer_ok (i : Int) : G_is_integer [.int i] = some (.bl true) := by
  have e1 : isiE "int" (vE 0) [some (.int i)] = some (.bl true) := by simp [isiE, vE, isA, tyN, k11]
  have e2 : isiE "bool" (vE 0) [some (.int i)] = some (.bl false) := by simp [isiE, vE, isA, tyN, k13]
  exact run_rt (ρ := [some (.int i)]) (ret_eq (bl_eq ((and_t (asB_eq e1)).trans (asB_eq (bl_eq (not_eq (asB_eq e2))))))) rfl
theorem le_int (a b : Int) : leG (.int a) (.int b) = some (.bl (decide (a ≤ b))) := rfl
theorem chE_eq {fa fb fc : En → Option D} {ρ : En} {a b c : Int} (h1 : fa ρ = some (.int a)) (h2 : fb ρ = some (.int b)) (h3 : fc ρ = some (.int c)) : chE leG leG fa fb fc ρ = some (.bl (decide (a ≤ b ∧ b ≤ c))) := by
  unfold chE
  rw [h1, h2]
  simp only [Option.bind_some, le_int]
  by_cases h : a ≤ b
  · rw [decide_eq_true h]
    simp only [h3, Option.bind_some, le_int, h, true_and]
  · rw [decide_eq_false h]
    simp [h]
theorem is_in_ok (v a b : Int) : G_is_in [.int v, .int a, .int b] = some (.bl (decide (a ≤ v ∧ v ≤ b))) :=
  run_rt (ρ := [some (.int v), some (.int a), some (.int b)]) (ret_eq (bl_eq ((and_t (asB_eq ((callE_eq (cons1 rfl) rfl).trans (is_integer_ok v)))).trans (asB_eq (chE_eq rfl rfl rfl))))) rfl
theorem is_list_ok (ds : List D) (a b : Int) : G_is_list [.tup ds, .int a, .int b] = some (.bl (decide (a ≤ (ds.length : Int) ∧ (ds.length : Int) ≤ b))) := by
  have e1 : isiE "tuple" (vE 0) [some (.tup ds), some (.int a), some (.int b)] = some (.bl true) := by simp [isiE, vE, isA, tyN, k15]
  exact run_rt (ρ := [some (.tup ds), some (.int a), some (.int b)]) (ret_eq (bl_eq ((and_t (asB_eq e1)).trans (asB_eq (chE_eq rfl ((bE_eq (cons1 rfl)).trans (len_of (l := .tup ds) rfl)) rfl))))) rfl
theorem bools_map (bs : List Bool) : boolsOf (bs.map D.bl) = some bs := by
  induction bs with
  | nil => rfl
  | cons b bs ih => simp [boolsOf, ih]
theorem is_hand_ok {h : Hand} (ok : HandOk h) : G_is_hand [dRow h] = some (.bl true) := by
  have hlen : h.length ≤ 6 := by
    have nd : h.Nodup := ok.1.imp fun {a b} z e => by omega
    exact nodup_le (us := [0, 1, 2, 3, 4, 5]) nd fun k m => by
      have := ok.2 k m
      simp only [List.mem_cons, List.not_mem_nil, or_false]
      omega
  have e1 : asB (callE 3 G_is_list (consE (vE 0) (consE (cE (.int 0)) (consE (cE (.int 8)) nilE)))) [some (dRow h), none] = some true := by
    refine asB_eq ((callE_eq (cons3 rfl rfl rfl) rfl).trans ((is_list_ok _ 0 8).trans ?_))
    rw [List.length_map, decide_eq_true (by omega)]
  have e2 : lcE (tupE (vE 0)) (.nm 1) tyE (callE 3 G_is_in (consE (vE 1) (consE (cE (.int 0)) (consE (o2 subG (cE (.int 8)) (cE (.int 1))) nilE)))) [1] [some (dRow h), none] = some (.lst (h.map fun x => .bl (decide (0 ≤ x ∧ x ≤ 7)))) :=
    lcE_all h D.int (fun x => [some (dRow h), some (.int x)]) (fun x => .bl (decide (0 ≤ x ∧ x ≤ 7))) rfl (ocap (by omega)) fun x m => ⟨rfl, (callE_eq (cons3 rfl rfl (x := .int x) (y := .int 0) (z := .int 7) rfl) rfl).trans (is_in_ok x 0 7)⟩
  have e3 : asB (bE allG (consE (lcE (tupE (vE 0)) (.nm 1) tyE (callE 3 G_is_in (consE (vE 1) (consE (cE (.int 0)) (consE (o2 subG (cE (.int 8)) (cE (.int 1))) nilE)))) [1]) nilE)) [some (dRow h), none] = some true := by
    refine asB_eq ((bE_eq (cons1 e2)).trans ?_)
    have em : (h.map fun x => D.bl (decide (0 ≤ x ∧ x ≤ 7))) = (h.map fun x => decide (0 ≤ x ∧ x ≤ 7)).map D.bl := by
      rw [List.map_map]
      rfl
    show (boolsOf (h.map fun x => D.bl (decide (0 ≤ x ∧ x ≤ 7)))).map _ = _
    rw [em, bools_map]
    have : ((h.map fun x => decide (0 ≤ x ∧ x ≤ 7)).all id) = true := by
      rw [List.all_map, List.all_eq_true]
      intro x m
      have := ok.2 x m
      exact decide_eq_true (by omega)
    show some (D.bl ((h.map fun x => decide (0 ≤ x ∧ x ≤ 7)).all id)) = _
    rw [this]
  have e4 : usort h = h := lt_uniq (fun k => usort_mem k h) (usort_lt h) ok.1
  have e5 : usortE (vE 0) [some (dRow h), none] = some (.lst (h.map .int)) := by
    unfold usortE dRow
    simp only [vE, List.getElem?_cons_zero, Option.bind_some, id, itemsD, intsOf_map, e4]
    rw [if_pos ⟨by omega, by omega⟩]
  have e6 : bE listG (consE (vE 0) nilE) [some (dRow h), none] = some (.lst (h.map .int)) := (bE_eq (cons1 rfl)).trans rfl
  have e7 : eqG (.lst (h.map .int)) (.lst (h.map .int)) = some (.bl true) := by
    have d1 : dOk 60 (.lst (h.map .int)) = true := by simp [dOk, dOks_ints]
    unfold eqG
    rw [d1]
    simp [deq, deq_ints]
  exact run_rt (ρ := [some (dRow h), none]) (seq_nx (if_f ((or_f (not_eq e1)).trans (not_eq e3)) rfl) (ret_eq ((o2_eq e6 e5).trans e7))) rfl
theorem need_hands_ok {hs : Hands} (h1 : 1 ≤ hs.length) (h7 : hs.length ≤ 7) (ok : ∀ h ∈ hs, HandOk h) : G_need_hands [dHs hs] = some .non := by
  have e1 : asB (callE 3 G_is_list (consE (vE 0) (consE (cE (.int 1)) (consE (cE (.int 7)) nilE)))) [some (dHs hs), none, none] = some true := by
    refine asB_eq ((callE_eq (cons3 rfl rfl rfl) rfl).trans ((is_list_ok _ 1 7).trans ?_))
    rw [List.length_map, decide_eq_true (by omega)]
  have key := loopF_inv (t := .pr 1 2) (F := ifF (notB (asB (callE 1 G_is_hand (consE (vE 2) nilE)))) neverF nextF) (fun p => D.tup [.int p, dRow (hat hs p)]) (fun _ e => ∃ y1 y2, e = ⟨none, [some (dHs hs), y1, y2]⟩) (peop hs) [] _ ⟨none, none, rfl⟩ ?_
  · obtain ⟨e2, k1, y1, y2, rfl⟩ := key
    refine run_nx (ρ := [some (dHs hs), none, none]) (seq_nx (if_f (not_eq e1) rfl) (for_eq (?_ : _ = some ((peop hs).map fun p => D.tup [.int p, dRow (hat hs p)])) k1)) rfl
    show (consE (vE 0) nilE [some (dHs hs), none, none]).bind _ = _
    rw [cons1 (x := dHs hs) rfl]
    show some (enD (hs.map dRow)) = _
    rw [enD_rows]
  · rintro pre p e mp ⟨y1, y2, rfl⟩
    have mh : hat hs p ∈ hs := by
      obtain ⟨_, _, h3⟩ := hat_get mp
      unfold hat
      rw [List.getD_eq_getElem?_getD, List.getElem?_eq_getElem h3]
      exact List.getElem_mem h3
    exact ⟨_, _, rfl, if_f (ρ := [some (dHs hs), some (.int p), some (dRow (hat hs p))]) (not_eq (asB_eq ((callE_eq (cons1 rfl) rfl).trans (is_hand_ok (ok _ mh))))) rfl, _, _, rfl⟩
theorem things_comp {z : Option D} : ∀ hs : Hands, comp2D (.nm 1) tyE (tupE (vE 1)) (.nm 2) tyE (vE 2) [2] [z, none, none] (hs.map dRow) = some (hs.flatten.map .int)
  | [] => rfl
  | h :: hs => by
    have e := compD_eq (t := .nm 2) (c := tyE) (f := vE 2) (ρ := [z, some (dRow h), none]) D.int (fun x => [z, some (dRow h), some (.int x)]) (fun _ => true) D.int h fun x _ => ⟨rfl, rfl, fun _ => rfl⟩
    rw [List.filter_eq_self.mpr fun _ _ => rfl] at e
    have e2 : comp2D (.nm 1) tyE (tupE (vE 1)) (.nm 2) tyE (vE 2) [2] [z, none, none] (dRow h :: hs.map dRow) = (compD (.nm 2) tyE (vE 2) [z, some (dRow h), none] (h.map D.int)).bind fun ys => (comp2D (.nm 1) tyE (tupE (vE 1)) (.nm 2) tyE (vE 2) [2] [z, none, none] (hs.map dRow)).map fun l => ys ++ l := rfl
    rw [List.map_cons, e2, e, things_comp hs, List.flatten_cons, List.map_append]
    rfl
theorem things_in_ok {hs : Hands} (s : Small hs) : G_things_in [dHs hs] = some (.lst ((thingsM hs).map .int)) := by
  have hf : hs.flatten.length ≤ 30 := by
    have : ∀ l : Hands, (∀ h ∈ l, h.length ≤ 6) → l.flatten.length ≤ 6 * l.length := by
      intro l
      induction l with
      | nil => intro _; simp
      | cons h l ih =>
        intro q
        have a := q h (List.mem_cons_self ..)
        have b := ih fun x m => q x (List.mem_cons_of_mem _ m)
        simp only [List.flatten_cons, List.length_append, List.length_cons]
        omega
    have := this hs s.row
    have := s.len
    omega
  refine run_rt (ρ := [some (dHs hs), none, none]) (ret_eq (usortE_eq (ns := hs.flatten) (us := [0, 1, 2, 3, 4, 5]) ?_ (by omega) (fun k m => ?_) (by decide))) rfl
  · have e : lc2E (tupE (vE 0)) (.nm 1) tyE (tupE (vE 1)) (.nm 2) tyE (vE 2) [1, 2] [2] [some (dHs hs), none, none] = (comp2D (.nm 1) tyE (tupE (vE 1)) (.nm 2) tyE (vE 2) [2] [some (dHs hs), none, none] (hs.map dRow)).bind lstG := rfl
    rw [e, things_comp]
    show lstG (hs.flatten.map .int) = _
    unfold lstG
    rw [if_pos (ocap (by rw [List.length_map]; omega))]
  · obtain ⟨h, mh, mk⟩ := List.mem_flatten.mp m
    have := s.nat h mh k mk
    simp only [List.mem_cons, List.not_mem_nil, or_false]
    omega
theorem holders_in_ok (hs : Hands) (t : Int) (h : hs.length ≤ 100000) : G_holders_in [dHs hs, .int t] = some (.lst ((holdM hs t).map .int)) := by
  refine run_rt (ρ := [some (dHs hs), some (.int t), none, none]) (ret_eq ?_) rfl
  refine lcE_eq (peop hs) (fun p => D.tup [.int p, dRow (hat hs p)]) (fun p => [some (dHs hs), some (.int t), some (.int p), some (dRow (hat hs p))]) (fun p => decide (t ∈ hat hs p)) D.int ?_ (ocap (by have := List.length_filter_le (fun p => decide (t ∈ hat hs p)) (peop hs); rw [peop_len] at this; omega)) fun p m => ⟨rfl, ?_, fun _ => rfl⟩
  · show (consE (vE 0) nilE [some (dHs hs), some (.int t), none, none]).bind _ = _
    rw [cons1 (x := dHs hs) rfl]
    show some (enD (hs.map dRow)) = _
    rw [enD_rows]
  · exact asB_eq ((o2_eq rfl rfl).trans (in_row false t (hat hs p)))
end DL
end Part_PM3
section Part_PN1
set_option Elab.async false
set_option linter.all false
set_option maxRecDepth 100000
set_option maxHeartbeats 2000000
set_option autoImplicit false
namespace DL
open PySem L2

/-! ## the plain law: calls in an order -/
theorem peop_lt (hs : Hands) : (peop hs).Pairwise (· < ·) := by
  unfold peop
  rw [List.pairwise_map]
  exact List.pairwise_lt_range.imp fun {a b} h => by omega
theorem holdM_lt (hs : Hands) (t : Int) : (holdM hs t).Pairwise (· < ·) := (peop_lt hs).filter _
theorem lt_nodup {l : List Int} (h : l.Pairwise (· < ·)) : l.Nodup := h.imp fun {a b} z e => by omega
theorem holdM_mem {hs : Hands} {t p : Int} : p ∈ holdM hs t ↔ p ∈ peop hs ∧ t ∈ hat hs p := by
  unfold holdM
  rw [List.mem_filter, decide_eq_true_iff]
theorem len_call (hs : Hands) (x : Int) : (callM hs x).length = hs.length := List.length_set
theorem peop_of_len {a b : Hands} (h : a.length = b.length) : peop a = peop b := by
  unfold peop
  rw [h]
theorem hat_call {hs : Hands} {x p : Int} (hx : x ∈ peop hs) (hp : p ∈ peop hs) : hat (callM hs x) p = if p = x then (hat hs x).filter (fun t => decide (holdM hs t = [x])) else hat hs p := by
  obtain ⟨x0, x1⟩ := peop_mem.mp hx
  obtain ⟨p0, p1⟩ := peop_mem.mp hp
  unfold callM
  have e : ∀ l : Hands, hat l p = (l[p.toNat]?).getD [] := fun l => by
    unfold hat
    rw [List.getD_eq_getElem?_getD]
  rw [e, List.getElem?_set]
  by_cases h : p = x
  · rw [if_pos (by rw [h]), if_pos (by omega), if_pos h]
    rfl
  · rw [if_neg (by omega), if_neg h, e]
def keepB (hs : Hands) (r : Int → Nat) (pre : List Int) (t p : Int) : Bool := decide (p ∉ pre) || (holdM hs t).all fun q => decide (q ∈ pre) && decide (r q ≤ r p)
structure At (hs cur : Hands) (r : Int → Nat) (pre : List Int) : Prop where
  len : cur.length = hs.length
  hat : ∀ p ∈ peop hs, hat cur p = (hat hs p).filter fun t => keepB hs r pre t p
theorem At.hold {hs cur : Hands} {r : Int → Nat} {pre : List Int} (a : At hs cur r pre) (t : Int) : holdM cur t = (holdM hs t).filter fun p => keepB hs r pre t p := by
  unfold holdM
  rw [peop_of_len a.len, List.filter_filter]
  refine List.filter_congr fun p hp => ?_
  rw [a.hat p hp, Bool.eq_iff_iff, decide_eq_true_iff, List.mem_filter, Bool.and_eq_true, decide_eq_true_iff]
  exact And.comm
theorem keepB_iff {hs : Hands} {r : Int → Nat} {pre : List Int} {t p : Int} : keepB hs r pre t p = true ↔ p ∉ pre ∨ ∀ q ∈ holdM hs t, q ∈ pre ∧ r q ≤ r p := by
  unfold keepB
  rw [Bool.or_eq_true, decide_eq_true_iff, List.all_eq_true]
  simp only [Bool.and_eq_true, decide_eq_true_iff]
theorem At.sole {hs cur : Hands} {r : Int → Nat} {pre : List Int} (a : At hs cur r pre) {t x : Int} (hx : x ∈ holdM hs t) (hp : x ∉ pre) : holdM cur t = [x] ↔ ∀ q ∈ holdM hs t, q ∈ pre ∨ q = x := by
  rw [a.hold]
  constructor
  · intro h q hq
    by_cases m : q ∈ pre
    · exact .inl m
    · refine .inr ?_
      have : q ∈ (holdM hs t).filter fun p => keepB hs r pre t p := List.mem_filter.mpr ⟨hq, keepB_iff.mpr (.inl m)⟩
      rw [h] at this
      exact List.mem_singleton.mp this
  · intro h
    refine lt_uniq (fun k => ?_) ((holdM_lt hs t).filter _) (List.pairwise_singleton _ _)
    rw [List.mem_filter, List.mem_singleton, keepB_iff]
    constructor
    · rintro ⟨h1, h2 | h2⟩
      · exact (h k h1).resolve_left h2
      · exact absurd (h2 x hx).1 hp
    · rintro rfl
      exact ⟨hx, .inl hp⟩
theorem At.step {hs cur : Hands} {r : Int → Nat} {pre : List Int} {x : Int} (a : At hs cur r pre) (hx : x ∈ peop hs) (hn : x ∉ pre) (hr : ∀ q ∈ pre, r q < r x) : At hs (callM cur x) r (pre ++ [x]) := by
  have hx' : x ∈ peop cur := by rw [peop_of_len a.len]; exact hx
  refine ⟨by rw [len_call, a.len], fun p hp => ?_⟩
  have hp' : p ∈ peop cur := by rw [peop_of_len a.len]; exact hp
  rw [hat_call hx' hp']
  by_cases e : p = x
  · subst e
    rw [if_pos rfl, a.hat p hp, List.filter_filter]
    refine List.filter_congr fun t ht => ?_
    have hh : p ∈ holdM hs t := holdM_mem.mpr ⟨hp, ht⟩
    rw [Bool.eq_iff_iff, Bool.and_eq_true, decide_eq_true_iff, keepB_iff, keepB_iff, a.sole hh hn]
    constructor
    · rintro ⟨h1, _⟩
      refine .inr fun q hq => ?_
      rcases h1 q hq with h | h
      · exact ⟨List.mem_append_left _ h, Nat.le_of_lt (hr q h)⟩
      · rw [h]
        exact ⟨List.mem_append_right _ (List.mem_singleton.mpr rfl), Nat.le_refl _⟩
    · rintro (h | h)
      · exact absurd (List.mem_append_right _ (List.mem_singleton.mpr rfl)) h
      · refine ⟨fun q hq => ?_, .inl hn⟩
        rcases List.mem_append.mp (h q hq).1 with m | m
        · exact .inl m
        · exact .inr (List.mem_singleton.mp m)
  · rw [if_neg e, a.hat p hp]
    refine List.filter_congr fun t ht => ?_
    rw [Bool.eq_iff_iff, keepB_iff, keepB_iff]
    constructor
    · rintro (h | h)
      · refine .inl fun m => ?_
        rcases List.mem_append.mp m with m | m
        · exact h m
        · exact e (List.mem_singleton.mp m)
      · exact .inr fun q hq => ⟨List.mem_append_left _ (h q hq).1, (h q hq).2⟩
    · rintro (h | h)
      · exact .inl fun m => h (List.mem_append_left _ m)
      · by_cases mp : p ∈ pre
        · refine .inr fun q hq => ⟨?_, (h q hq).2⟩
          rcases List.mem_append.mp (h q hq).1 with m | m
          · exact m
          · have e2 := List.mem_singleton.mp m
            have := (h q hq).2
            rw [e2] at this
            have := hr p mp
            omega
        · exact .inl mp
theorem idx_pre {o pre post : List Int} {x : Int} (e : o = pre ++ x :: post) (nd : o.Nodup) : ∀ q ∈ pre, o.idxOf q < o.idxOf x := by
  intro q hq
  subst e
  have hx : x ∉ pre := fun m => by
    rw [List.nodup_append] at nd
    exact nd.2.2 x m x (List.mem_cons_self ..) rfl
  rw [List.idxOf_append, List.idxOf_append, if_pos hq, if_neg hx, List.idxOf_cons_self]
  have := List.idxOf_lt_length_of_mem hq
  omega
theorem done_at {hs : Hands} {o : List Int} (nd : o.Nodup) (hp : ∀ x ∈ o, x ∈ peop hs) : At hs (doneM hs o) (fun p => o.idxOf p) o := by
  have gen : ∀ (post pre : List Int) (cur : Hands), o = pre ++ post → At hs cur (fun p => o.idxOf p) pre → At hs (post.foldl callM cur) (fun p => o.idxOf p) o := by
    intro post
    induction post with
    | nil =>
      intro pre cur e a
      rw [List.append_nil] at e
      rw [← e] at a
      exact a
    | cons x post ih =>
      intro pre cur e a
      rw [List.foldl_cons]
      refine ih (pre ++ [x]) _ (by rw [e, List.append_assoc]; rfl) (a.step (hp x (by rw [e]; simp)) (fun m => ?_) (idx_pre e nd))
      rw [e, List.nodup_append] at nd
      exact nd.2.2 x m x (List.mem_cons_self ..) rfl
  refine gen o [] hs rfl ⟨rfl, fun p _ => ?_⟩
  refine (List.filter_eq_self.mpr fun t _ => ?_).symm
  exact keepB_iff.mpr (.inl (List.not_mem_nil))
theorem len_done (hs : Hands) (o : List Int) : (doneM hs o).length = hs.length := by
  unfold doneM
  induction o generalizing hs with
  | nil => rfl
  | cons x o ih => rw [List.foldl_cons, ih, len_call]
/-- an order: each of the people once -/
structure Ord (hs : Hands) (o : List Int) : Prop where
  nd : o.Nodup
  all : ∀ p, p ∈ o ↔ p ∈ peop hs
theorem done_hat {hs : Hands} {o : List Int} (O : Ord hs o) {p : Int} (hp : p ∈ peop hs) : hat (doneM hs o) p = (hat hs p).filter fun t => (holdM hs t).all fun q => decide (o.idxOf q ≤ o.idxOf p) := by
  have a := done_at (hs := hs) O.nd fun x m => (O.all x).mp m
  rw [a.hat p hp]
  refine List.filter_congr fun t ht => ?_
  rw [Bool.eq_iff_iff, keepB_iff, List.all_eq_true]
  simp only [decide_eq_true_iff]
  constructor
  · rintro (h | h)
    · exact absurd ((O.all p).mpr hp) h
    · exact fun q hq => (h q hq).2
  · exact fun h => .inr fun q hq => ⟨(O.all q).mpr (holdM_peop hq), h q hq⟩
end DL
end Part_PN1
section Part_PN2
set_option Elab.async false
set_option linter.all false
set_option maxRecDepth 100000
set_option maxHeartbeats 2000000
set_option autoImplicit false
namespace DL
open PySem L2

/-! ## ends by keepers -/
def endM (hs : Hands) (kv : List (Int × Int)) : Hands := (peop hs).map fun p => (hat hs p).filter fun t => decide (kv.lookup t = some p)
structure Keep (hs : Hands) (kv : List (Int × Int)) : Prop where
  fst : kv.map (·.1) = thingsM hs
  ok : ∀ q ∈ kv, q.2 ∈ holdM hs q.1
def Acy (st : List (Int × Int)) : Prop := ∃ r : Int → Nat, ∀ q ∈ st, r q.1 < r q.2
theorem thingsM_lt (hs : Hands) : (thingsM hs).Pairwise (· < ·) := usort_lt _
theorem thingsM_mem {hs : Hands} {t : Int} : t ∈ thingsM hs ↔ ∃ p ∈ peop hs, t ∈ hat hs p := by
  unfold thingsM
  rw [usort_mem, List.mem_flatten]
  constructor
  · rintro ⟨h, mh, mt⟩
    obtain ⟨i, hi, rfl⟩ := List.getElem_of_mem mh
    refine ⟨((i : Nat) : Int), peop_mem.mpr ⟨by omega, by omega⟩, ?_⟩
    unfold hat
    rw [Int.toNat_natCast, List.getD_eq_getElem?_getD, List.getElem?_eq_getElem hi]
    exact mt
  · rintro ⟨p, mp, mt⟩
    obtain ⟨_, _, h3⟩ := hat_get mp
    refine ⟨hat hs p, ?_, mt⟩
    unfold hat
    rw [List.getD_eq_getElem?_getD, List.getElem?_eq_getElem h3]
    exact List.getElem_mem h3
theorem mem_steps {hs : Hands} {kv : List (Int × Int)} {s : Int × Int} : s ∈ stepsM hs kv ↔ ∃ q ∈ kv, s.1 ∈ holdM hs q.1 ∧ s.1 ≠ q.2 ∧ s.2 = q.2 := by
  unfold stepsM
  rw [List.mem_flatMap]
  refine exists_congr fun q => and_congr_right fun mq => ?_
  rw [List.mem_map]
  constructor
  · rintro ⟨p, mp, rfl⟩
    rw [List.mem_filter, decide_eq_true_iff] at mp
    exact ⟨mp.1, mp.2, rfl⟩
  · rintro ⟨h1, h2, h3⟩
    refine ⟨s.1, List.mem_filter.mpr ⟨h1, decide_eq_true h2⟩, ?_⟩
    rw [← h3]
theorem lookup_mem : ∀ {kv : List (Int × Int)} {t p : Int}, kv.lookup t = some p → (t, p) ∈ kv
  | [], _, _, h => by simp at h
  | (a, b) :: kv, t, p, h => by
    rw [List.lookup_cons] at h
    by_cases e : t = a
    · simp only [e, beq_self_eq_true] at h
      rw [e]
      injection h with h
      rw [h]
      exact List.mem_cons_self ..
    · have : (t == a) = false := by simpa using e
      simp only [this] at h
      exact List.mem_cons_of_mem _ (lookup_mem h)
theorem lookup_of : ∀ {kv : List (Int × Int)} {t p : Int}, (kv.map (·.1)).Nodup → (t, p) ∈ kv → kv.lookup t = some p
  | [], _, _, _, h => by simp at h
  | (a, b) :: kv, t, p, nd, h => by
    rw [List.lookup_cons]
    rw [List.map_cons, List.nodup_cons] at nd
    rcases List.mem_cons.mp h with e | m
    · injection e with e1 e2
      simp [e1, e2]
    · have hne : t ≠ a := fun e => nd.1 (by rw [← e]; exact List.mem_map.mpr ⟨(t, p), m, rfl⟩)
      have : (t == a) = false := by simpa using hne
      simp only [this]
      exact lookup_of nd.2 m
theorem Keep.nd {hs : Hands} {kv : List (Int × Int)} (K : Keep hs kv) : (kv.map (·.1)).Nodup := by
  rw [K.fst]
  exact lt_nodup (thingsM_lt hs)
theorem Keep.get {hs : Hands} {kv : List (Int × Int)} (K : Keep hs kv) {t : Int} (m : t ∈ thingsM hs) : ∃ k, kv.lookup t = some k ∧ k ∈ holdM hs t ∧ (t, k) ∈ kv := by
  rw [← K.fst, List.mem_map] at m
  obtain ⟨⟨a, k⟩, mq, rfl⟩ := m
  exact ⟨k, lookup_of K.nd mq, K.ok _ mq, mq⟩
theorem len_end (hs : Hands) (kv : List (Int × Int)) : (endM hs kv).length = hs.length := by
  unfold endM
  rw [List.length_map, peop_len]
theorem hat_map {hs : Hands} (f : Int → Hand) {p : Int} (hp : p ∈ peop hs) : hat ((peop hs).map f) p = f p := by
  obtain ⟨h0, h1⟩ := peop_mem.mp hp
  unfold hat peop
  rw [List.getD_eq_getElem?_getD, List.getElem?_map, List.getElem?_map, List.getElem?_range (by omega)]
  show f ((p.toNat : Nat) : Int) = f p
  rw [show ((p.toNat : Nat) : Int) = p by omega]
theorem hat_end {hs : Hands} {kv : List (Int × Int)} {p : Int} (hp : p ∈ peop hs) : hat (endM hs kv) p = (hat hs p).filter fun t => decide (kv.lookup t = some p) := hat_map (fun p => (hat hs p).filter fun t => decide (kv.lookup t = some p)) hp
theorem hands_ext {a b : Hands} (hl : a.length = b.length) (h : ∀ p ∈ peop a, hat a p = hat b p) : a = b := by
  refine List.ext_getElem hl fun i h1 h2 => ?_
  have := h ((i : Nat) : Int) (peop_mem.mpr ⟨by omega, by omega⟩)
  unfold hat at this
  rw [Int.toNat_natCast, List.getD_eq_getElem?_getD, List.getD_eq_getElem?_getD, List.getElem?_eq_getElem h1, List.getElem?_eq_getElem h2] at this
  exact this
theorem things_of {hs : Hands} {p t : Int} (hp : p ∈ peop hs) (ht : t ∈ hat hs p) : t ∈ thingsM hs := thingsM_mem.mpr ⟨p, hp, ht⟩
/-- an order that goes with the keepers' steps -/
theorem done_end {hs : Hands} {kv : List (Int × Int)} {o : List Int} (O : Ord hs o) (K : Keep hs kv) (hr : ∀ s ∈ stepsM hs kv, o.idxOf s.1 < o.idxOf s.2) : doneM hs o = endM hs kv := by
  refine hands_ext (by rw [len_done, len_end]) fun p hp => ?_
  rw [peop_of_len (len_done hs o)] at hp
  rw [done_hat O hp, hat_end hp]
  refine List.filter_congr fun t ht => ?_
  obtain ⟨k, h1, h2, h3⟩ := K.get (things_of hp ht)
  rw [Bool.eq_iff_iff, List.all_eq_true, decide_eq_true_iff, h1]
  simp only [decide_eq_true_iff]
  constructor
  · intro h
    by_cases e : p = k
    · rw [e]
    · have := hr (p, k) (mem_steps.mpr ⟨(t, k), h3, holdM_mem.mpr ⟨hp, ht⟩, e, rfl⟩)
      have := h k h2
      simp only at *
      omega
  · intro e q hq
    injection e with e
    subst e
    by_cases e : q = k
    · rw [e]
      exact Nat.le_refl _
    · have := hr (q, k) (mem_steps.mpr ⟨(t, k), h3, hq, e, rfl⟩)
      simp only at this
      omega
theorem ex_top (r : Int → Nat) : ∀ {l : List Int}, l ≠ [] → ∃ k ∈ l, ∀ q ∈ l, r q ≤ r k
  | [], h => absurd rfl h
  | [x], _ => ⟨x, List.mem_cons_self .., fun q m => by rw [List.mem_singleton.mp m]; exact Nat.le_refl _⟩
  | x :: y :: l, _ => by
    obtain ⟨k, mk, hk⟩ := ex_top r (l := y :: l) (List.cons_ne_nil _ _)
    by_cases h : r x ≤ r k
    · refine ⟨k, List.mem_cons_of_mem _ mk, fun q m => ?_⟩
      rcases List.mem_cons.mp m with e | m
      · rw [e]
        exact h
      · exact hk q m
    · refine ⟨x, List.mem_cons_self .., fun q m => ?_⟩
      rcases List.mem_cons.mp m with e | m
      · rw [e]
        exact Nat.le_refl _
      · have := hk q m
        omega
theorem ex_kv {P : Int → Int → Prop} : ∀ {ts : List Int}, (∀ t ∈ ts, ∃ k, P t k) → ∃ kv : List (Int × Int), kv.map (·.1) = ts ∧ ∀ q ∈ kv, P q.1 q.2
  | [], _ => ⟨[], rfl, fun _ m => nomatch m⟩
  | t :: ts, h => by
    obtain ⟨k, hk⟩ := h t (List.mem_cons_self ..)
    obtain ⟨kv, h1, h2⟩ := ex_kv (ts := ts) fun x m => h x (List.mem_cons_of_mem _ m)
    refine ⟨(t, k) :: kv, by rw [List.map_cons, h1], fun q m => ?_⟩
    rcases List.mem_cons.mp m with e | m
    · rw [e]
      exact hk
    · exact h2 q m
theorem idx_inj {o : List Int} {a b : Int} (ha : a ∈ o) (hb : b ∈ o) (h : o.idxOf a = o.idxOf b) : a = b := by
  have h1 := List.getElem_idxOf (List.idxOf_lt_length_of_mem ha)
  have h2 := List.getElem_idxOf (List.idxOf_lt_length_of_mem hb)
  rw [← h1, ← h2]
  congr 1
/-- each order has its keepers -/
theorem ord_kv {hs : Hands} {o : List Int} (O : Ord hs o) : ∃ kv, Keep hs kv ∧ ∀ s ∈ stepsM hs kv, o.idxOf s.1 < o.idxOf s.2 := by
  obtain ⟨kv, h1, h2⟩ := ex_kv (ts := thingsM hs) (P := fun t k => k ∈ holdM hs t ∧ ∀ q ∈ holdM hs t, o.idxOf q ≤ o.idxOf k) fun t m => ex_top (fun p => o.idxOf p) (hold_flat m)
  refine ⟨kv, ⟨h1, fun q m => (h2 q m).1⟩, fun s m => ?_⟩
  obtain ⟨q, mq, a, b, c⟩ := mem_steps.mp m
  have := (h2 q mq).2 s.1 a
  rw [← c] at this b
  refine Nat.lt_of_le_of_ne this fun e => b (idx_inj ((O.all _).mpr (holdM_peop a)) ((O.all _).mpr ?_) e)
  rw [c]
  exact holdM_peop (h2 q mq).1
/-- keepers without a ring have an order -/
theorem acy_ord {hs : Hands} {st : List (Int × Int)} (h : Acy st) (hm : ∀ s ∈ st, s.1 ∈ peop hs ∧ s.2 ∈ peop hs) : ∃ o, Ord hs o ∧ ∀ s ∈ st, o.idxOf s.1 < o.idxOf s.2 := by
  obtain ⟨r, hr⟩ := h
  have pm := List.mergeSort_perm (peop hs) (fun a b => decide (r a ≤ r b))
  have pw : ((peop hs).mergeSort (fun a b => decide (r a ≤ r b))).Pairwise (fun a b => decide (r a ≤ r b) = true) :=
    List.pairwise_mergeSort (fun a b c h1 h2 => by simp only [decide_eq_true_iff] at *; omega) (fun a b => by simp only [Bool.or_eq_true, decide_eq_true_iff]; omega) _
  refine ⟨_, ⟨pm.nodup_iff.mpr (lt_nodup (peop_lt hs)), fun p => pm.mem_iff⟩, fun s ms => ?_⟩
  generalize (peop hs).mergeSort (fun a b => decide (r a ≤ r b)) = o at pm pw
  have h1 := List.idxOf_lt_length_of_mem (pm.mem_iff.mpr (hm s ms).1)
  have h2 := List.idxOf_lt_length_of_mem (pm.mem_iff.mpr (hm s ms).2)
  have lt := hr s ms
  rcases Nat.lt_trichotomy (o.idxOf s.1) (o.idxOf s.2) with h | h | h
  · exact h
  · have := idx_inj (pm.mem_iff.mpr (hm s ms).1) (pm.mem_iff.mpr (hm s ms).2) h
    rw [this] at lt
    omega
  · have := List.pairwise_iff_getElem.mp pw _ _ h2 h1 h
    rw [List.getElem_idxOf, List.getElem_idxOf, decide_eq_true_iff] at this
    omega
theorem steps_peop {hs : Hands} {kv : List (Int × Int)} (ok : ∀ q ∈ kv, q.2 ∈ holdM hs q.1) : ∀ s ∈ stepsM hs kv, s.1 ∈ peop hs ∧ s.2 ∈ peop hs := fun s m => by
  obtain ⟨q, mq, a, b, c⟩ := mem_steps.mp m
  refine ⟨holdM_peop a, ?_⟩
  rw [c]
  exact holdM_peop (ok q mq)
/-- the keepers are read off the end -/
theorem end_lookup {hs : Hands} {kv : List (Int × Int)} (K : Keep hs kv) {p t : Int} (hp : p ∈ peop hs) : t ∈ hat (endM hs kv) p ↔ (t, p) ∈ kv := by
  rw [hat_end hp, List.mem_filter, decide_eq_true_iff]
  constructor
  · rintro ⟨_, h⟩
    exact lookup_mem h
  · intro h
    exact ⟨(holdM_mem.mp (K.ok _ h)).2, lookup_of K.nd h⟩
theorem kv_ext : ∀ {a b : List (Int × Int)}, (a.map (·.1)).Nodup → a.map (·.1) = b.map (·.1) → (∀ q, q ∈ a → q ∈ b) → a = b
  | [], [], _, _, _ => rfl
  | [], _ :: _, _, h, _ => by simp at h
  | _ :: _, [], _, h, _ => by simp at h
  | (x, y) :: a, (z, w) :: b, nd, h, m => by
    rw [List.map_cons, List.map_cons] at h
    injection h with h1 h2
    simp only at h1
    subst h1
    rw [List.map_cons, List.nodup_cons] at nd
    have hd : y = w := by
      rcases List.mem_cons.mp (m (x, y) (List.mem_cons_self ..)) with e | e
      · injection e
      · exact absurd (by rw [h2]; exact List.mem_map.mpr ⟨(x, y), e, rfl⟩) nd.1
    rw [hd, kv_ext nd.2 h2 fun q mq => by
      rcases List.mem_cons.mp (m q (List.mem_cons_of_mem _ mq)) with e | e
      · exact absurd (by rw [e] at mq; exact List.mem_map.mpr ⟨_, mq, rfl⟩) nd.1
      · exact e]
theorem end_inj {hs : Hands} {a b : List (Int × Int)} (A : Keep hs a) (B : Keep hs b) (h : endM hs a = endM hs b) : a = b :=
  kv_ext A.nd (A.fst.trans B.fst.symm) fun q m => by
    have hp := holdM_peop (A.ok q m)
    have := (end_lookup A hp).mpr m
    rw [h] at this
    exact (end_lookup B hp).mp this
end DL
end Part_PN2
section Part_PN3
set_option Elab.async false
set_option linter.all false
set_option maxRecDepth 100000
set_option maxHeartbeats 2000000
set_option autoImplicit false
namespace DL
open PySem L2

/-! ## the ring test -/
def freeM (st : List (Int × Int)) (left : List Int) : List Int := left.filter fun p => !(st.any fun q => decide (q.2 = p) && decide (q.1 ∈ left))
def restM (st : List (Int × Int)) (left : List Int) : List Int := left.filter fun p => decide (p ∉ freeM st left)
def ringM (st : List (Int × Int)) : Nat → List Int → Bool
  | 0, _ => true
  | n + 1, left => if left = [] then false else if freeM st left = [] then true else ringM st n (restM st left)
def allM (st : List (Int × Int)) : List Int := usort (st.flatMap fun q => [q.1, q.2])
def hasM (st : List (Int × Int)) : Bool := ringM st 12 (allM st)
theorem free_mem {st : List (Int × Int)} {left : List Int} {p : Int} : p ∈ freeM st left ↔ p ∈ left ∧ ∀ q ∈ st, q.2 = p → q.1 ∉ left := by
  unfold freeM
  rw [List.mem_filter, Bool.not_eq_true', List.any_eq_false]
  refine and_congr_right fun _ => forall_congr' fun q => forall_congr' fun _ => ?_
  rw [Bool.and_eq_true, decide_eq_true_iff, decide_eq_true_iff, not_and]
theorem rest_mem {st : List (Int × Int)} {left : List Int} {p : Int} : p ∈ restM st left ↔ p ∈ left ∧ p ∉ freeM st left := by
  unfold restM
  rw [List.mem_filter, decide_eq_true_iff]
theorem rest_len {st : List (Int × Int)} {left : List Int} (h : freeM st left ≠ []) : (restM st left).length < left.length := by
  obtain ⟨x, hx⟩ := List.exists_mem_of_ne_nil _ h
  unfold restM
  refine List.length_filter_lt_length_iff_exists.mpr ⟨x, (free_mem.mp hx).1, by simpa using hx⟩
theorem ring_acy {st : List (Int × Int)} : ∀ (n : Nat) (left : List Int), ringM st n left = false → ∃ r : Int → Nat, ∀ q ∈ st, q.1 ∈ left → q.2 ∈ left → r q.1 < r q.2
  | 0, _, h => by simp [ringM] at h
  | n + 1, left, h => by
    unfold ringM at h
    split at h
    · rename_i e
      exact ⟨fun _ => 0, fun q _ m => by rw [e] at m; exact absurd m List.not_mem_nil⟩
    · split at h
      · cases h
      · obtain ⟨r, hr⟩ := ring_acy n _ h
        refine ⟨fun p => if p ∈ freeM st left then 0 else r p + 1, fun q mq m1 m2 => ?_⟩
        have n2 : q.2 ∉ freeM st left := fun m => (free_mem.mp m).2 q mq rfl m1
        simp only [if_neg n2]
        by_cases n1 : q.1 ∈ freeM st left
        · rw [if_pos n1]
          omega
        · rw [if_neg n1]
          have := hr q mq (rest_mem.mpr ⟨m1, n1⟩) (rest_mem.mpr ⟨m2, n2⟩)
          omega
theorem ex_low (r : Int → Nat) : ∀ {l : List Int}, l ≠ [] → ∃ k ∈ l, ∀ q ∈ l, r k ≤ r q
  | [], h => absurd rfl h
  | [x], _ => ⟨x, List.mem_cons_self .., fun q m => by rw [List.mem_singleton.mp m]; exact Nat.le_refl _⟩
  | x :: y :: l, _ => by
    obtain ⟨k, mk, hk⟩ := ex_low r (l := y :: l) (List.cons_ne_nil _ _)
    by_cases h : r k ≤ r x
    · refine ⟨k, List.mem_cons_of_mem _ mk, fun q m => ?_⟩
      rcases List.mem_cons.mp m with e | m
      · rw [e]
        exact h
      · exact hk q m
    · refine ⟨x, List.mem_cons_self .., fun q m => ?_⟩
      rcases List.mem_cons.mp m with e | m
      · rw [e]
        exact Nat.le_refl _
      · have := hk q m
        omega
theorem acy_free {st : List (Int × Int)} (h : Acy st) {left : List Int} (hl : left ≠ []) : freeM st left ≠ [] := by
  obtain ⟨r, hr⟩ := h
  obtain ⟨k, mk, hk⟩ := ex_low r hl
  refine List.ne_nil_of_mem (free_mem.mpr ⟨mk, fun q mq e m => ?_⟩ : k ∈ freeM st left)
  have := hr q mq
  have := hk _ m
  rw [e] at *
  omega
theorem acy_ring {st : List (Int × Int)} (h : Acy st) : ∀ (n : Nat) (left : List Int), left.length < n → ringM st n left = false
  | 0, _, hn => by omega
  | n + 1, left, hn => by
    unfold ringM
    by_cases e : left = []
    · rw [if_pos e]
    · rw [if_neg e, if_neg (acy_free h e)]
      have := rest_len (acy_free h e)
      exact acy_ring h n _ (by omega)
theorem allM_mem {st : List (Int × Int)} {p : Int} : p ∈ allM st ↔ ∃ q ∈ st, p = q.1 ∨ p = q.2 := by
  unfold allM
  rw [usort_mem, List.mem_flatMap]
  refine exists_congr fun q => and_congr_right fun _ => ?_
  simp
theorem allM_len {hs : Hands} {st : List (Int × Int)} (hm : ∀ s ∈ st, s.1 ∈ peop hs ∧ s.2 ∈ peop hs) : (allM st).length ≤ hs.length := by
  have := nodup_le (us := peop hs) (lt_nodup (usort_lt (st.flatMap fun q => [q.1, q.2]))) fun k m => by
    obtain ⟨q, mq, h | h⟩ := allM_mem.mp m
    · rw [h]
      exact (hm q mq).1
    · rw [h]
      exact (hm q mq).2
  rw [peop_len] at this
  exact this
theorem has_iff {hs : Hands} {st : List (Int × Int)} (hl : hs.length ≤ 5) (hm : ∀ s ∈ st, s.1 ∈ peop hs ∧ s.2 ∈ peop hs) : hasM st = false ↔ Acy st := by
  constructor
  · intro h
    obtain ⟨r, hr⟩ := ring_acy 12 _ h
    exact ⟨r, fun q mq => hr q mq (allM_mem.mpr ⟨q, mq, .inl rfl⟩) (allM_mem.mpr ⟨q, mq, .inr rfl⟩)⟩
  · intro h
    have := allM_len hm
    exact acy_ring h 12 _ (by omega)
theorem Acy.sub {a b : List (Int × Int)} (h : Acy b) (s : ∀ q ∈ a, q ∈ b) : Acy a := let ⟨r, hr⟩ := h; ⟨r, fun q m => hr q (s q m)⟩

/-! ## the keepers without a ring -/
def growM (hs : Hands) (t : Int) (found : List (List (Int × Int))) : List (List (Int × Int)) := found.flatMap fun kv => ((holdM hs t).map fun p => kv ++ [(t, p)]).filter fun l => !hasM (stepsM hs l)
def foldM (hs : Hands) (ts : List Int) (found : List (List (Int × Int))) : List (List (Int × Int)) := ts.foldl (fun f t => growM hs t f) found
def kepM (hs : Hands) : List (List (Int × Int)) := foldM hs (thingsM hs) [[]]
structure KeepOn (hs : Hands) (ts : List Int) (kv : List (Int × Int)) : Prop where
  fst : kv.map (·.1) = ts
  ok : ∀ q ∈ kv, q.2 ∈ holdM hs q.1
  acy : Acy (stepsM hs kv)
theorem steps_app (hs : Hands) (a b : List (Int × Int)) : stepsM hs (a ++ b) = stepsM hs a ++ stepsM hs b := by
  unfold stepsM
  rw [List.flatMap_append]
theorem grow_mem {hs : Hands} (hl : hs.length ≤ 5) {pre : List Int} {t : Int} {found : List (List (Int × Int))} (h : ∀ kv, kv ∈ found ↔ KeepOn hs pre kv) (kv : List (Int × Int)) : kv ∈ growM hs t found ↔ KeepOn hs (pre ++ [t]) kv := by
  unfold growM
  rw [List.mem_flatMap]
  constructor
  · rintro ⟨a, ma, m⟩
    rw [List.mem_filter, List.mem_map, Bool.not_eq_true'] at m
    obtain ⟨⟨p, mp, rfl⟩, hr⟩ := m
    have A := (h a).mp ma
    have ok : ∀ q ∈ a ++ [(t, p)], q.2 ∈ holdM hs q.1 := fun q mq => by
      rcases List.mem_append.mp mq with m | m
      · exact A.ok q m
      · rw [List.mem_singleton.mp m]
        exact mp
    exact ⟨by rw [List.map_append, A.fst]; rfl, ok, (has_iff hl (steps_peop ok)).mp hr⟩
  · intro A
    rcases List.eq_nil_or_concat kv with e | ⟨a, q, e⟩
    · have := A.fst
      rw [e] at this
      simp at this
    · rw [List.concat_eq_append] at e
      subst e
      have e1 := A.fst
      rw [List.map_append] at e1
      obtain ⟨e2, e3⟩ := List.append_inj' e1 rfl
      have e4 : q.1 = t := by simpa using e3
      have hq := A.ok q (List.mem_append_right _ (List.mem_singleton.mpr rfl))
      refine ⟨a, (h a).mpr ⟨e2, fun x m => A.ok x (List.mem_append_left _ m), A.acy.sub fun x m => by rw [steps_app]; exact List.mem_append_left _ m⟩, ?_⟩
      rw [List.mem_filter, List.mem_map, Bool.not_eq_true']
      refine ⟨⟨q.2, by rw [← e4]; exact hq, by rw [← e4]⟩, (has_iff hl (steps_peop A.ok)).mpr A.acy⟩
theorem fold_mem {hs : Hands} (hl : hs.length ≤ 5) : ∀ (ts pre : List Int) (found : List (List (Int × Int))), (∀ kv, kv ∈ found ↔ KeepOn hs pre kv) → ∀ kv, kv ∈ foldM hs ts found ↔ KeepOn hs (pre ++ ts) kv
  | [], pre, found, h, kv => by rw [List.append_nil]; exact h kv
  | t :: ts, pre, found, h, kv => by
    have := fold_mem hl ts (pre ++ [t]) (growM hs t found) (grow_mem hl h) kv
    rw [List.append_assoc] at this
    exact this
theorem kep_mem {hs : Hands} (hl : hs.length ≤ 5) {kv : List (Int × Int)} : kv ∈ kepM hs ↔ Keep hs kv ∧ Acy (stepsM hs kv) := by
  have := fold_mem hl (thingsM hs) [] [[]] (fun kv => by
    rw [List.mem_singleton]
    constructor
    · rintro rfl
      exact ⟨rfl, (fun _ m => nomatch m), ⟨fun _ => 0, fun _ m => nomatch m⟩⟩
    · intro h
      exact List.map_eq_nil_iff.mp h.fst) kv
  unfold kepM
  rw [this, List.nil_append]
  exact ⟨fun h => ⟨⟨h.fst, h.ok⟩, h.acy⟩, fun h => ⟨h.1.fst, h.1.ok, h.2⟩⟩
theorem grow_nodup {hs : Hands} {t : Int} {found : List (List (Int × Int))} (h : found.Nodup) : (growM hs t found).Nodup := by
  unfold growM
  induction found with
  | nil => exact .nil
  | cons a found ih =>
    rw [List.nodup_cons] at h
    rw [List.flatMap_cons, List.nodup_append]
    refine ⟨?_, ih h.2, fun x hx y hy e => ?_⟩
    · refine List.Pairwise.filter _ ?_
      refine List.pairwise_map.mpr ((holdM_lt hs t).imp fun {p q} z e => ?_)
      have := List.append_cancel_left e
      simp at this
      omega
    · subst e
      rw [List.mem_filter, List.mem_map] at hx
      obtain ⟨⟨p, _, rfl⟩, _⟩ := hx
      rw [List.mem_flatMap] at hy
      obtain ⟨b, mb, hy⟩ := hy
      rw [List.mem_filter, List.mem_map] at hy
      obtain ⟨⟨q, _, e⟩, _⟩ := hy
      have := (List.append_inj' e rfl).1
      rw [this] at mb
      exact h.1 mb
theorem kep_nodup (hs : Hands) : (kepM hs).Nodup := by
  have gen : ∀ (ts : List Int) (found : List (List (Int × Int))), found.Nodup → (foldM hs ts found).Nodup := by
    intro ts
    induction ts with
    | nil => exact fun _ h => h
    | cons t ts ih => exact fun f h => ih _ (grow_nodup h)
  exact gen _ _ (by simp)
/-! ## all orders -/
theorem step_mem {n : Nat} {fs : List (List Int)} {o : List Int} : o ∈ stepO n fs ↔ ∃ a ∈ fs, ∃ i : Nat, i < n ∧ ((i : Nat) : Int) ∉ a ∧ o = a ++ [((i : Nat) : Int)] := by
  unfold stepO
  rw [List.mem_flatMap]
  refine exists_congr fun a => and_congr_right fun _ => ?_
  rw [List.mem_map]
  constructor
  · rintro ⟨p, mp, rfl⟩
    rw [List.mem_filter, List.mem_map, decide_eq_true_iff] at mp
    obtain ⟨⟨i, mi, rfl⟩, hn⟩ := mp
    exact ⟨i, List.mem_range.mp mi, hn, rfl⟩
  · rintro ⟨i, hi, hn, rfl⟩
    exact ⟨_, List.mem_filter.mpr ⟨List.mem_map.mpr ⟨i, List.mem_range.mpr hi, rfl⟩, decide_eq_true hn⟩, rfl⟩
theorem iter_mem {n : Nat} : ∀ (k : Nat) (o : List Int), o ∈ iterO n k ↔ o.length = k ∧ o.Nodup ∧ ∀ x ∈ o, 0 ≤ x ∧ x < (n : Int)
  | 0, o => by
    unfold iterO
    rw [List.mem_singleton]
    constructor
    · rintro rfl
      exact ⟨rfl, .nil, fun _ m => nomatch m⟩
    · intro h
      exact List.length_eq_zero_iff.mp h.1
  | k + 1, o => by
    unfold iterO
    rw [step_mem]
    constructor
    · rintro ⟨a, ma, i, hi, hn, rfl⟩
      obtain ⟨h1, h2, h3⟩ := (iter_mem k a).mp ma
      refine ⟨by rw [List.length_append, h1]; rfl, ?_, fun x m => ?_⟩
      · rw [List.nodup_append]
        exact ⟨h2, by simp, fun x hx y hy e => hn (by rw [← List.mem_singleton.mp hy, ← e]; exact hx)⟩
      · rcases List.mem_append.mp m with m | m
        · exact h3 x m
        · rw [List.mem_singleton.mp m]
          omega
    · rintro ⟨h1, h2, h3⟩
      rcases List.eq_nil_or_concat o with e | ⟨a, x, e⟩
      · rw [e] at h1
        simp at h1
      · rw [List.concat_eq_append] at e
        subst e
        rw [List.length_append, List.length_singleton] at h1
        rw [List.nodup_append] at h2
        have hx := h3 x (List.mem_append_right _ (List.mem_singleton.mpr rfl))
        have ex : ((x.toNat : Nat) : Int) = x := by omega
        refine ⟨a, (iter_mem k a).mpr ⟨by omega, h2.1, fun y m => h3 y (List.mem_append_left _ m)⟩, x.toNat, by omega, ?_, by rw [ex]⟩
        rw [ex]
        exact fun m => h2.2.2 x m x (List.mem_singleton.mpr rfl) rfl
theorem nodup_all : ∀ {l us : List Int}, l.Nodup → us.Nodup → (∀ k ∈ l, k ∈ us) → us.length ≤ l.length → ∀ k ∈ us, k ∈ l := by
  intro l us nl nu h hl k hk
  refine Decidable.byContradiction fun n => ?_
  have := nodup_le (l := k :: l) (us := us) (List.nodup_cons.mpr ⟨n, nl⟩) fun x m => by
    rcases List.mem_cons.mp m with e | m
    · rw [e]
      exact hk
    · exact h x m
  rw [List.length_cons] at this
  omega
theorem orders_mem {hs : Hands} {o : List Int} : o ∈ ordersM hs.length ↔ Ord hs o := by
  unfold ordersM
  rw [iter_mem]
  constructor
  · rintro ⟨h1, h2, h3⟩
    have sub : ∀ k ∈ o, k ∈ peop hs := fun k m => peop_mem.mpr (h3 k m)
    exact ⟨h2, fun p => ⟨sub p, nodup_all h2 (lt_nodup (peop_lt hs)) sub (by rw [peop_len, h1]; exact Nat.le_refl _) p⟩⟩
  · rintro ⟨h1, h2⟩
    refine ⟨?_, h1, fun x m => peop_mem.mp ((h2 x).mp m)⟩
    have a := nodup_le h1 fun k m => (h2 k).mp m
    have b := nodup_le (lt_nodup (peop_lt hs)) fun k m => (h2 k).mpr m
    rw [peop_len] at a b
    omega
theorem orders_len {n : Nat} (h : n ≤ 5) : (ordersM n).length ≤ 120 := by
  have : n = 0 ∨ n = 1 ∨ n = 2 ∨ n = 3 ∨ n = 4 ∨ n = 5 := by omega
  rcases this with rfl | rfl | rfl | rfl | rfl | rfl <;> decide +kernel
theorem orders_one (hs : Hands) : ordersM hs.length ≠ [] := by
  have : peop hs ∈ ordersM hs.length := orders_mem.mpr ⟨lt_nodup (peop_lt hs), fun _ => Iff.rfl⟩
  exact List.ne_nil_of_mem this
/-! ## the ends that can come -/
theorem keys_kep {hs : Hands} (hl : hs.length ≤ 5) {e : Hands} : e ∈ keysM hs ↔ ∃ kv ∈ kepM hs, endM hs kv = e := by
  rw [keysM_mem]
  constructor
  · rintro ⟨o, mo, rfl⟩
    have O := orders_mem.mp mo
    obtain ⟨kv, K, hr⟩ := ord_kv O
    exact ⟨kv, (kep_mem hl).mpr ⟨K, fun p => o.idxOf p, hr⟩, (done_end O K hr).symm⟩
  · rintro ⟨kv, mk, rfl⟩
    obtain ⟨K, A⟩ := (kep_mem hl).mp mk
    obtain ⟨o, O, hr⟩ := acy_ord A (steps_peop K.ok)
    exact ⟨o, orders_mem.mpr O, done_end O K hr⟩
theorem ends_nodup {hs : Hands} (hl : hs.length ≤ 5) : ((kepM hs).map (endM hs)).Nodup := by
  rw [List.Nodup, List.pairwise_map]
  refine List.Pairwise.imp_of_mem (fun {a b} ma mb z e => z ?_) (kep_nodup hs)
  exact end_inj ((kep_mem hl).mp ma).1 ((kep_mem hl).mp mb).1 e
theorem ends_perm {hs : Hands} (hl : hs.length ≤ 5) : ((kepM hs).map (endM hs)).Perm (keysM hs) := by
  refine (List.perm_ext_iff_of_nodup (ends_nodup hl) keysM_nodup).mpr fun e => ?_
  rw [keys_kep hl, List.mem_map]
theorem due_sort {hs : Hands} (hl : hs.length ≤ 5) : ((kepM hs).map (endM hs)).mergeSort leH = dueM hs := sortH_uniq (ends_perm hl)
theorem kep_len {hs : Hands} (hl : hs.length ≤ 5) : (kepM hs).length = (dueM hs).length := by
  have := (ends_perm hl).length_eq
  rw [List.length_map] at this
  rw [dueM_len, this]
end DL
end Part_PN3
section Part_PN4
set_option Elab.async false
set_option linter.all false
set_option maxRecDepth 100000
set_option maxHeartbeats 2000000
set_option autoImplicit false
namespace DL
open PySem L2

/-! ## the ends that are looked at -/
structure EndOk (hs e : Hands) : Prop where
  len : e.length = hs.length
  row : ∀ p ∈ peop hs, HandOk (hat e p)
  one : ∀ p ∈ peop hs, ∀ q ∈ peop hs, ∀ t, t ∈ hat e p → t ∈ hat e q → p = q
theorem HandOk.filter {h : Hand} (H : HandOk h) (f : Int → Bool) : HandOk (h.filter f) := ⟨H.1.filter _, fun x m => H.2 x (List.mem_filter.mp m).1⟩
theorem hat_mem {hs : Hands} {p : Int} (hp : p ∈ peop hs) : hat hs p ∈ hs := by
  obtain ⟨_, _, h3⟩ := hat_get hp
  unfold hat
  rw [List.getD_eq_getElem?_getD, List.getElem?_eq_getElem h3]
  exact List.getElem_mem h3
theorem HandsOk.hat {hs : Hands} (H : HandsOk hs) {p : Int} (hp : p ∈ peop hs) : HandOk (hat hs p) := H.ok _ (hat_mem hp)
theorem hats {e : Hands} {h : Hand} (m : h ∈ e) : ∃ p ∈ peop e, hat e p = h := by
  obtain ⟨i, hi, rfl⟩ := List.getElem_of_mem m
  refine ⟨((i : Nat) : Int), peop_mem.mpr ⟨by omega, by omega⟩, ?_⟩
  unfold DL.hat
  rw [Int.toNat_natCast, List.getD_eq_getElem?_getD, List.getElem?_eq_getElem hi]
  rfl
theorem HandOk.len {h : Hand} (H : HandOk h) : h.length ≤ 6 :=
  nodup_le (us := [0, 1, 2, 3, 4, 5]) (lt_nodup H.1) fun k m => by
    have := H.2 k m
    simp only [List.mem_cons, List.not_mem_nil, or_false]
    omega
theorem small_of {e : Hands} (hl : e.length ≤ 5) (h : ∀ h ∈ e, HandOk h) : Small e := ⟨hl, fun x m => (h x m).len, fun x m => (h x m).2⟩
theorem HandsOk.small {hs : Hands} (H : HandsOk hs) : Small hs := small_of H.hi H.ok
theorem EndOk.rows {hs e : Hands} (E : EndOk hs e) : ∀ h ∈ e, HandOk h := fun h m => by
  obtain ⟨p, hp, rfl⟩ := hats m
  rw [peop_of_len E.len] at hp
  exact E.row p hp
theorem EndOk.small {hs e : Hands} (H : HandsOk hs) (E : EndOk hs e) : Small e := small_of (by rw [E.len]; exact H.hi) E.rows
theorem EndOk.hold {hs e : Hands} (E : EndOk hs e) {t p : Int} (hp : p ∈ peop hs) (m : t ∈ hat e p) : holdM e t = [p] := by
  refine lt_uniq (fun k => ?_) (holdM_lt e t) (List.pairwise_singleton _ _)
  rw [holdM_mem, List.mem_singleton, peop_of_len E.len]
  constructor
  · rintro ⟨h1, h2⟩
    exact E.one k h1 p hp t h2 m
  · rintro rfl
    exact ⟨hp, m⟩
/-- ends by keepers are such -/
theorem end_ok {hs : Hands} (H : HandsOk hs) (kv : List (Int × Int)) : EndOk hs (endM hs kv) := by
  refine ⟨len_end hs kv, fun p hp => ?_, fun p hp q hq t h1 h2 => ?_⟩
  · rw [hat_end hp]
    exact (H.hat hp).filter _
  · rw [hat_end hp, List.mem_filter, decide_eq_true_iff] at h1
    rw [hat_end hq, List.mem_filter, decide_eq_true_iff] at h2
    have := h1.2.symm.trans h2.2
    injection this
theorem things_ok {hs : Hands} (H : HandsOk hs) : HandOk (thingsM hs) := ⟨thingsM_lt hs, fun x m => things_mem H.small m⟩
theorem other_ok {hs : Hands} (H : HandsOk hs) (aw : List Int) : EndOk hs (otherM hs aw) := by
  have eh : ∀ p ∈ peop hs, hat (otherM hs aw) p = (thingsM hs).filter fun t => decide (aw.getD t.toNat 0 = p) := fun p hp => hat_map (fun p => (thingsM hs).filter fun t => decide (aw.getD t.toNat 0 = p)) hp
  refine ⟨by unfold otherM; rw [List.length_map, peop_len], fun p hp => ?_, fun p hp q hq t h1 h2 => ?_⟩
  · rw [eh p hp]
    exact (things_ok H).filter _
  · rw [eh p hp, List.mem_filter, decide_eq_true_iff] at h1
    rw [eh q hq, List.mem_filter, decide_eq_true_iff] at h2
    exact h1.2.symm.trans h2.2
theorem due_end {hs e : Hands} (H : HandsOk hs) (m : e ∈ dueM hs) : ∃ kv ∈ kepM hs, endM hs kv = e := (keys_kep H.hi).mp (dueM_mem.mp m)
theorem look_ok {hs e : Hands} (H : HandsOk hs) (h : Looked hs e) : EndOk hs e := by
  rcases h with m | ⟨aw, rfl⟩
  · obtain ⟨kv, _, rfl⟩ := due_end H m
    exact end_ok H kv
  · exact other_ok H aw
/-- the dict that is read off an end -/
def kvE (e : Hands) : List (Int × Int) := (peop e).flatMap fun p => (hat e p).map fun t => (t, p)
theorem kvE_mem {e : Hands} {q : Int × Int} : q ∈ kvE e ↔ q.2 ∈ peop e ∧ q.1 ∈ hat e q.2 := by
  unfold kvE
  rw [List.mem_flatMap]
  constructor
  · rintro ⟨p, hp, m⟩
    obtain ⟨t, mt, rfl⟩ := List.mem_map.mp m
    exact ⟨hp, mt⟩
  · rintro ⟨h1, h2⟩
    exact ⟨q.2, h1, List.mem_map.mpr ⟨q.1, h2, rfl⟩⟩
theorem told_mem {hs e : Hands} (E : EndOk hs e) {q : Int × Int} : q ∈ told1 e ↔ q ∈ kvE e := by
  unfold told1
  rw [List.mem_map, kvE_mem, peop_of_len E.len]
  constructor
  · rintro ⟨t, mt, rfl⟩
    obtain ⟨p, hp, m⟩ := thingsM_mem.mp mt
    rw [peop_of_len E.len] at hp
    rw [E.hold hp m]
    exact ⟨hp, m⟩
  · rintro ⟨h1, h2⟩
    refine ⟨q.1, thingsM_mem.mpr ⟨q.2, by rw [peop_of_len E.len]; exact h1, h2⟩, ?_⟩
    rw [E.hold h1 h2]
    rfl
theorem told_fst (e : Hands) : (told1 e).map (·.1) = thingsM e := by
  unfold told1
  rw [List.map_map]
  exact List.map_id _
theorem steps_same {hs : Hands} {a b : List (Int × Int)} (h : ∀ q, q ∈ a ↔ q ∈ b) (s : Int × Int) : s ∈ stepsM hs a ↔ s ∈ stepsM hs b := by
  rw [mem_steps, mem_steps]
  exact exists_congr fun q => and_congr_left fun _ => h q
/-- what fits_end asks -/
def fitM (hs e : Hands) : Bool := decide (thingsM hs = thingsM e) && ((peop hs).all fun p => (hat e p).all fun t => decide (t ∈ hat hs p)) && !hasM (stepsM hs (kvE e))
theorem fit_iff {hs e : Hands} (H : HandsOk hs) (E : EndOk hs e) : fitM hs e = decide (e ∈ keysM hs) := by
  rw [Bool.eq_iff_iff, decide_eq_true_iff]
  unfold fitM
  rw [Bool.and_eq_true, Bool.and_eq_true, decide_eq_true_iff, List.all_eq_true, Bool.not_eq_true', keys_kep H.hi]
  simp only [List.all_eq_true, decide_eq_true_iff]
  constructor
  · rintro ⟨⟨h1, h2⟩, h3⟩
    have ok : ∀ q ∈ kvE e, q.2 ∈ holdM hs q.1 := fun q m => by
      obtain ⟨a, b⟩ := kvE_mem.mp m
      rw [peop_of_len E.len] at a
      exact holdM_mem.mpr ⟨a, h2 q.2 a q.1 b⟩
    have K : Keep hs (told1 e) := ⟨by rw [told_fst, h1], fun q m => ok q ((told_mem E).mp m)⟩
    refine ⟨told1 e, (kep_mem H.hi).mpr ⟨K, ((has_iff H.hi (steps_peop ok)).mp h3).sub fun s m => (steps_same (fun q => told_mem E) s).mp m⟩, ?_⟩
    refine hands_ext (by rw [len_end, E.len]) fun p hp => ?_
    rw [peop_of_len (len_end _ _)] at hp
    refine lt_uniq (fun t => ?_) ((end_ok H _).row p hp).1 (E.row p hp).1
    rw [end_lookup K hp, told_mem E, kvE_mem, peop_of_len E.len]
    exact ⟨fun h => h.2, fun h => ⟨hp, h⟩⟩
  · rintro ⟨kv, mk, rfl⟩
    obtain ⟨K, A⟩ := (kep_mem H.hi).mp mk
    have sub : ∀ p ∈ peop hs, ∀ t ∈ hat (endM hs kv) p, t ∈ hat hs p := fun p hp t m => by
      rw [hat_end hp] at m
      exact (List.mem_filter.mp m).1
    have ok : ∀ q ∈ kvE (endM hs kv), q.2 ∈ holdM hs q.1 := fun q m => by
      obtain ⟨a, b⟩ := kvE_mem.mp m
      rw [peop_of_len E.len] at a
      exact holdM_mem.mpr ⟨a, sub q.2 a q.1 b⟩
    refine ⟨⟨?_, sub⟩, (has_iff H.hi (steps_peop ok)).mpr (A.sub fun s m => (steps_same (fun q => ?_) s).mp m)⟩
    · refine lt_uniq (fun t => ?_) (thingsM_lt _) (thingsM_lt _)
      rw [thingsM_mem (hs := endM hs kv), peop_of_len E.len]
      constructor
      · intro m
        obtain ⟨k, h1, h2, h3⟩ := K.get m
        exact ⟨k, holdM_peop h2, (end_lookup K (holdM_peop h2)).mpr h3⟩
      · rintro ⟨p, hp, m⟩
        exact things_of hp (sub p hp t m)
    · rw [kvE_mem, peop_of_len E.len]
      constructor
      · rintro ⟨a, b⟩
        exact (end_lookup K a).mp b
      · intro m
        have a := holdM_peop (K.ok q m)
        exact ⟨a, (end_lookup K a).mpr m⟩
theorem usort_same {a b : List Int} (h : ∀ k, k ∈ a ↔ k ∈ b) : usort a = usort b := lt_uniq (fun k => by rw [usort_mem, usort_mem, h]) (usort_lt a) (usort_lt b)
theorem steps_usort {hs e : Hands} (E : EndOk hs e) : usortP (stepsM hs (kvE e)) = usortP (stepsM hs (told1 e)) := by
  unfold usortP
  rw [usort_same fun k => ?_]
  rw [List.mem_map, List.mem_map]
  exact exists_congr fun s => and_congr_left fun _ => (steps_same (fun q => told_mem E) s).symm
/-- who keeps a thing in some end -/
theorem keep_same {hs : Hands} (H : HandsOk hs) {t : Int} (mt : t ∈ thingsM hs) : usort ((kepM hs).map fun kv => (kv.lookup t).getD 0) = usort ((dueM hs).map fun e => (holdM e t).headD 0) := by
  have key : ∀ kv ∈ kepM hs, (holdM (endM hs kv) t).headD 0 = (kv.lookup t).getD 0 := fun kv mk => by
    have K := ((kep_mem H.hi).mp mk).1
    obtain ⟨k, h1, h2, h3⟩ := K.get mt
    have hp := holdM_peop h2
    rw [(end_ok H kv).hold hp ((end_lookup K hp).mpr h3), h1]
    rfl
  refine usort_same fun k => ?_
  rw [List.mem_map, List.mem_map]
  constructor
  · rintro ⟨kv, mk, rfl⟩
    exact ⟨endM hs kv, dueM_mem.mpr ((keys_kep H.hi).mpr ⟨kv, mk, rfl⟩), key kv mk⟩
  · rintro ⟨e, me, rfl⟩
    obtain ⟨kv, mk, rfl⟩ := due_end H me
    exact ⟨kv, mk, (key kv mk).symm⟩
end DL
end Part_PN4
section Part_PM4
set_option Elab.async false
set_option linter.all false
set_option maxRecDepth 100000
set_option maxHeartbeats 2000000
set_option autoImplicit false
namespace DL
open PySem L2

/-! ## more of how mirrors are evaluated -/
section
variable {F G : ES → Option Out} {c : En → Option Bool} {f : En → Option D} {fl fi : En → Option (List D)} {t : Tg} {ρ : En} {d : D} {ds l : List D} {k i : Nat} {o : Out} {oo : Option Out}
theorem own_eq (h : k < ρ.length) : ownF k ⟨none, ρ⟩ = some (.nx ⟨some k, ρ.set k (some (.lst []))⟩) := if_pos ⟨rfl, h⟩
theorem own1_eq (h : k < ρ.length) (hf : f ρ = some d) : own1F k f ⟨none, ρ⟩ = some (.nx ⟨some k, ρ.set k (some (.lst [d]))⟩) := by
  unfold own1F
  rw [if_pos ⟨rfl, h⟩]
  show (f ρ).map _ = _
  rw [hf]
  rfl
theorem grow_eq (h : ρ[k]? = some (some (.lst ds))) (hf : fl (ρ.set k none) = some l) (hl : ds.length + l.length < 100000) : growF k fl ⟨some k, ρ⟩ = some (.nx ⟨some k, ρ.set k (some (.lst (ds ++ l)))⟩) := by
  have hl' : ds.length + l.length < cap := hl
  simp only [growF, if_true, h, ES.view, hf, Option.bind_some, if_pos hl']
theorem app_eq (h : ρ[k]? = some (some (.lst ds))) (hf : f (ρ.set k none) = some d) (hl : ds.length + 1 < 100000) : appF k f ⟨some k, ρ⟩ = some (.nx ⟨some k, ρ.set k (some (.lst (ds ++ [d])))⟩) := by
  refine grow_eq h (l := [d]) ?_ hl
  unfold oneE
  rw [hf]
  rfl
theorem appR_eq (h : ρ[k]? = some (some (.lst ds))) (hf : f ρ = some d) (hn : noL d = true) (hl : ds.length + 1 < 100000) : appRF k f ⟨some k, ρ⟩ = some (.nx ⟨some k, ρ.set k (some (.lst (ds ++ [d])))⟩) := by
  have hl' : ds.length + 1 < cap := hl
  simp only [appRF, if_true, h, hf, Option.bind_some, hn, true_and, if_pos hl']
theorem setR_eq {ow : Option Nat} (h : f ρ = some d) : setRF i f ⟨ow, ρ⟩ = some (.nx ⟨none, ρ.set i (some d)⟩) := by
  show (f ρ).map _ = _
  rw [h]
  rfl
theorem forO_eq (h : fi (ρ.set k none) = some ds) (q : loopF t F ds ⟨some k, ρ⟩ = oo) : forF fi t F ⟨some k, ρ⟩ = oo := by
  show (fi (ρ.set k none)).bind _ = _
  rw [h]
  exact q
theorem ifO_t (h : c (ρ.set k none) = some true) (q : F ⟨some k, ρ⟩ = some o) : ifF c F G ⟨some k, ρ⟩ = some o := by
  show (c (ρ.set k none)).bind _ = _
  rw [h]
  exact q
theorem ifO_f (h : c (ρ.set k none) = some false) (q : G ⟨some k, ρ⟩ = some o) : ifF c F G ⟨some k, ρ⟩ = some o := by
  show (c (ρ.set k none)).bind _ = _
  rw [h]
  exact q
theorem setO_eq (hn : k ≠ i) (h : f (ρ.set k none) = some d) : setF i f ⟨some k, ρ⟩ = some (.nx ⟨some k, ρ.set i (some d)⟩) := by
  unfold setF
  rw [if_neg (fun z => hn (Option.some.inj z))]
  show (f (ρ.set k none)).map _ = _
  rw [h]
  rfl
end
theorem len_lst (l : List Int) : lenG [.lst (l.map .int)] = some (.int (l.length : Nat)) := by
  have := len_of (l := .lst (l.map D.int)) rfl
  rw [List.length_map] at this
  exact this
theorem len_map {α : Type} (enc : α → D) (l : List α) : lenG [.lst (l.map enc)] = some (.int (l.length : Nat)) := by
  have := len_of (l := .lst (l.map enc)) rfl
  rw [List.length_map] at this
  exact this
theorem gt_int (a b : Int) : gtG (.int a) (.int b) = some (.bl (decide (b < a))) := rfl
theorem fcap {α : Type} {l : List α} {p : α → Bool} {n : Nat} (h : l.length ≤ n) (hn : n ≤ 100000) : (l.filter p).length ≤ cap := ocap (Nat.le_trans (List.length_filter_le _ _) (Nat.le_trans h hn))
theorem dOk_lints (l : List Int) : dOk 60 (.lst (l.map .int)) = true := by simp [dOk, dOks_ints]
theorem eq_lints (a b : List Int) : eqG (.lst (a.map .int)) (.lst (b.map .int)) = some (.bl (decide (a = b))) := by
  unfold eqG
  rw [dOk_lints, dOk_lints]
  simp [deq, deq_ints]
theorem ne_lints (a b : List Int) : neG (.lst (a.map .int)) (.lst (b.map .int)) = some (.bl (!decide (a = b))) := by
  unfold neG
  rw [dOk_lints, dOk_lints]
  simp [deq, deq_ints]
theorem ix_last {α : Type} (enc : α → D) {l : List α} {x : α} (h : l.getLast? = some x) : ixG (.lst (l.map enc)) (.int (-1)) = some (enc x) := by
  rw [List.getLast?_eq_getElem?] at h
  have hp : 0 < l.length := by
    cases l with
    | nil => simp at h
    | cons y r => exact Nat.succ_pos _
  show (some (l.map enc)).bind _ = _
  simp only [Option.bind_some]
  unfold atI ixN
  rw [if_neg (by omega), if_pos (by rw [List.length_map]; omega), List.length_map]
  have e : (-1 + (l.length : Int)).toNat = l.length - 1 := by omega
  rw [e]
  simp only [Option.bind_some]
  rw [List.getElem?_map, h]
  rfl
section
variable {f g : En → Option D} {gl : En → Option (List D)} {ρ : En} {ds r : List D} {i : Nat}
theorem star_eq (h : f ρ = some (.tup ds)) (k : gl ρ = some r) : starE f gl ρ = some (ds ++ r) := by
  simp [starE, h, k]
theorem cons_eq {x : D} (h : f ρ = some x) (k : gl ρ = some r) : consE f gl ρ = some (x :: r) := by
  simp [consE, h, k]
theorem part_eq {v : Int} (h : f ρ = some (.int v)) : partE f ρ = some (some v) := by
  simp [partE, h]
theorem sl_lo (h : f ρ = some (.tup ds)) (k : g ρ = some (.int ((i : Nat) : Int))) (hi : i ≤ ds.length) : slE f (fun _ => some none) (partE g) ρ = some (.tup (ds.take i)) := by
  unfold slE
  rw [h, part_eq k]
  simp only [Option.bind_some]
  unfold cutD
  rw [HT.sIx_none, HT.sIx_nat, List.drop_zero, Nat.sub_zero, Nat.min_eq_left hi]
theorem sl_hi (h : f ρ = some (.tup ds)) (k : g ρ = some (.int ((i : Nat) : Int))) (hi : i ≤ ds.length) : slE f (partE g) (fun _ => some none) ρ = some (.tup (ds.drop i)) := by
  unfold slE
  rw [h, part_eq k]
  simp only [Option.bind_some]
  unfold cutD
  rw [HT.sIx_none, HT.sIx_nat, Nat.min_eq_left hi, List.take_of_length_le (by rw [List.length_drop]; exact Nat.le_refl _)]
theorem tup_eq (h : gl ρ = some ds) (hl : ds.length ≤ 100000) : tupE' gl ρ = some (.tup ds) := by
  have hl' : ds.length ≤ cap := hl
  unfold tupE'
  rw [h]
  simp only [Option.bind_some]
  unfold tupG
  rw [if_pos hl']
theorem lst_eq (h : gl ρ = some ds) (hl : ds.length ≤ 100000) : lstE' gl ρ = some (.lst ds) := by
  have hl' : ds.length ≤ cap := hl
  unfold lstE'
  rw [h]
  simp only [Option.bind_some]
  unfold lstG
  rw [if_pos hl']
end
theorem add_int (a b : Int) : addG (.int a) (.int b) = some (.int (a + b)) := rfl
theorem set_rows {hs : Hands} {i : Nat} (h : i < hs.length) (x : Hand) : (hs.set i x).map dRow = (hs.map dRow).take i ++ dRow x :: (hs.map dRow).drop (i + 1) := by
  rw [List.set_eq_take_append_cons_drop, if_pos h, List.map_append, List.map_cons, List.map_take, List.map_drop]
theorem Small.hl {hs : Hands} (s : Small hs) {p : Int} (hp : p ∈ peop hs) : (hat hs p).length ≤ 6 := s.row _ (hat_mem hp)
theorem Small.call {hs : Hands} (s : Small hs) {p : Int} (hp : p ∈ peop hs) : Small (callM hs p) := by
  have key : ∀ h ∈ callM hs p, h ∈ hs ∨ h = (hat hs p).filter fun t => decide (holdM hs t = [p]) := fun h m => List.mem_or_eq_of_mem_set m
  refine ⟨by rw [len_call]; exact s.len, fun h m => ?_, fun h m x mx => ?_⟩
  · rcases key h m with m | rfl
    · exact s.row h m
    · exact Nat.le_trans (List.length_filter_le _ _) (s.hl hp)
  · rcases key h m with m | rfl
    · exact s.nat h m x mx
    · exact s.nat _ (hat_mem hp) x (List.mem_filter.mp mx).1
theorem Small.done {hs : Hands} : ∀ {o : List Int}, Small hs → (∀ x ∈ o, x ∈ peop hs) → Small (doneM hs o) := by
  intro o
  induction o generalizing hs with
  | nil => exact fun s _ => s
  | cons x o ih =>
    intro s h
    have hx := h x (List.mem_cons_self ..)
    exact ih (hs := callM hs x) (s.call hx) fun y m => by
      rw [peop_of_len (len_call hs x)]
      exact h y (List.mem_cons_of_mem _ m)
theorem done_snoc (hs : Hands) (o : List Int) (x : Int) : doneM hs (o ++ [x]) = callM (doneM hs o) x := by
  unfold doneM
  rw [List.foldl_append]
  rfl
/-! ### spare_in, call_in, story_in -/
def spareM (hs : Hands) (p : Int) : List Int := (hat hs p).filter fun t => decide ((1 : Int) < ((holdM hs t).length : Nat))
theorem spare_ok {hs : Hands} (s : Small hs) {p : Int} (hp : p ∈ peop hs) : G_spare_in [dHs hs, .int p] = some (.lst ((spareM hs p).map .int)) := by
  have hlen := s.len
  refine run_rt (ρ := [some (dHs hs), some (.int p), none]) (ret_eq ?_) rfl
  refine lcE_eq (hat hs p) D.int (fun t => [some (dHs hs), some (.int p), some (.int t)]) (fun t => decide ((1 : Int) < ((holdM hs t).length : Nat))) D.int (tupE_eq (ds := (hat hs p).map .int) ((o2_eq rfl rfl).trans (ix_hat hp))) (fcap (s.hl hp) (by omega)) fun t mt => ⟨rfl, ?_, fun _ => rfl⟩
  exact asB_eq ((o2_eq ((bE_eq (cons1 ((callE_eq (cons2 rfl rfl) rfl).trans (holders_in_ok hs t (by omega))))).trans (len_lst _)) rfl).trans (gt_int _ _))
theorem spare_not {hs : Hands} {p t : Int} (hp : p ∈ peop hs) (mt : t ∈ hat hs p) : (!decide (t ∈ spareM hs p)) = decide (holdM hs t = [p]) := by
  have hm : p ∈ holdM hs t := holdM_mem.mpr ⟨hp, mt⟩
  rw [Bool.eq_iff_iff, Bool.not_eq_true', decide_eq_false_iff_not, decide_eq_true_iff]
  unfold spareM
  rw [List.mem_filter, decide_eq_true_iff]
  constructor
  · intro h
    have hl : (holdM hs t).length ≤ 1 := by
      refine Decidable.byContradiction fun n => h ⟨mt, ?_⟩
      omega
    cases q : holdM hs t with
    | nil => rw [q] at hm; cases hm
    | cons a r =>
      rw [q] at hl hm
      cases r with
      | nil =>
        rw [List.mem_singleton.mp hm]
      | cons b r => simp at hl
  · rintro h ⟨_, h2⟩
    rw [h] at h2
    simp at h2
theorem call_in_ok {hs : Hands} (s : Small hs) {p : Int} (hp : p ∈ peop hs) : G_call_in [dHs hs, .int p] = some (dHs (callM hs p)) := by
  have hlen := s.len
  obtain ⟨_, hpn, hpl⟩ := hat_get hp
  have inner := lcE_eq (t := .nm 4) (c := asB (o2 (inG true) (vE 4) (vE 2))) (f := vE 4) (fi := tupE (o2 ixG (vE 0) (vE 1))) (vs := [4]) (ρ := [some (dHs hs), some (.int p), some (.lst ((spareM hs p).map .int)), none, none])
    (hat hs p) D.int (fun t => [some (dHs hs), some (.int p), some (.lst ((spareM hs p).map .int)), none, some (.int t)]) (fun t => !decide (t ∈ spareM hs p)) D.int (tupE_eq (ds := (hat hs p).map .int) ((o2_eq rfl rfl).trans (ix_hat hp))) (fcap (s.hl hp) (by omega)) fun t mt => ⟨rfl, asB_eq ((o2_eq rfl rfl).trans (in_lst true t (spareM hs p))), fun _ => rfl⟩
  rw [List.filter_congr fun t mt => spare_not hp mt] at inner
  refine run_rt (ρ := [some (dHs hs), some (.int p), none, none, none]) (seq_nx (set_eq ((callE_eq (cons2 rfl rfl) rfl).trans (spare_ok s hp))) (seq_nx (set_eq (d := dRow ((hat hs p).filter fun t => decide (holdM hs t = [p]))) ((bE_eq (cons1 inner)).trans rfl)) (ret_eq ?_))) rfl
  have e1 := sl_lo (f := vE 0) (g := vE 1) (ρ := [some (dHs hs), some (.int p), some (.lst ((spareM hs p).map .int)), some (dRow ((hat hs p).filter fun t => decide (holdM hs t = [p]))), none]) (ds := hs.map dRow) (i := p.toNat) rfl (by rw [← hpn]; rfl) (by rw [List.length_map]; omega)
  have e2 := sl_hi (f := vE 0) (g := o2 addG (vE 1) (cE (.int 1))) (ρ := [some (dHs hs), some (.int p), some (.lst ((spareM hs p).map .int)), some (dRow ((hat hs p).filter fun t => decide (holdM hs t = [p]))), none]) (ds := hs.map dRow) (i := p.toNat + 1) rfl (by
    rw [show (((p.toNat + 1 : Nat)) : Int) = p + 1 from by omega]
    exact (o2_eq (x := .int p) (y := .int 1) rfl rfl).trans (add_int p 1)) (by rw [List.length_map]; omega)
  have e3 := set_rows hpl ((hat hs p).filter fun t => decide (holdM hs t = [p]))
  refine (tup_eq (star_eq e1 (cons_eq (x := dRow ((hat hs p).filter fun t => decide (holdM hs t = [p]))) rfl (star_eq e2 (r := []) rfl))) ?_).trans ?_
  · rw [List.append_nil, ← e3, List.length_map, List.length_set]
    omega
  · rw [List.append_nil, ← e3]
    rfl
theorem noL_ints : ∀ l : List Int, noLs (l.map D.int) = true
  | [] => by simp [noLs]
  | x :: l => by simp [noLs, noL, noL_ints l]
theorem noL_rows : ∀ l : Hands, noLs (l.map dRow) = true
  | [] => by simp [noLs]
  | x :: l => by simp [noLs, noL, dRow, noL_ints, noL_rows l]
theorem noL_hs (hs : Hands) : noL (dHs hs) = true := by
  unfold dHs noL
  exact noL_rows hs
theorem story_ok {hs : Hands} (s : Small hs) {o : List Int} (mo : ∀ x ∈ o, x ∈ peop hs) (hl : o.length ≤ 1000) : ∃ l : List Hands, G_story_in [dHs hs, dRow o] = some (.lst (l.map dHs)) ∧ l.getLast? = some (doneM hs o) := by
  have key := loopF_inv2 (t := .nm 3) (F := appRF 2 (callE 2 G_call_in (consE (o2 ixG (vE 2) (cE (.int (-1)))) (consE (vE 3) nilE)))) D.int
    (fun pre e => ∃ (l : List Hands) (x3 : Option D), e = ⟨some 2, [some (dHs hs), some (dRow o), some (.lst (l.map dHs)), x3]⟩ ∧ l.getLast? = some (doneM hs pre) ∧ l.length = pre.length + 1) (L := o) (e := ⟨some 2, [some (dHs hs), some (dRow o), some (.lst [dHs hs]), none]⟩) ⟨[hs], none, rfl, rfl, rfl⟩ ?_
  · obtain ⟨e2, k1, l, x3, rfl, k2, k3⟩ := key
    refine ⟨l, ?_, k2⟩
    exact run_rt (ρ := [some (dHs hs), some (dRow o), none, none]) (seq_nx (own1_eq (d := dHs hs) (by simp) rfl) (seq_nx (forO_eq (ds := o.map .int) rfl k1) (ret_eq rfl))) rfl
  · rintro pre x post e hL ⟨l, x3, rfl, k2, k3⟩
    have hx : x ∈ peop hs := mo x (by rw [hL]; simp)
    have sm : Small (doneM hs pre) := s.done fun y m => mo y (by rw [hL]; exact List.mem_append_left _ m)
    have hx' : x ∈ peop (doneM hs pre) := by
      rw [peop_of_len (len_done hs pre)]
      exact hx
    have hlen : pre.length + 1 ≤ o.length := by
      rw [hL, List.length_append, List.length_cons]
      omega
    refine ⟨_, _, rfl, appR_eq (k := 2) (ρ := [some (dHs hs), some (dRow o), some (.lst (l.map dHs)), some (.int x)]) (ds := l.map dHs) (d := dHs (callM (doneM hs pre) x)) rfl ((callE_eq (cons2 (x := dHs (doneM hs pre)) (y := .int x) ((o2_eq rfl rfl).trans (ix_last dHs k2)) rfl) rfl).trans (call_in_ok sm hx')) (noL_hs _) (by rw [List.length_map]; omega), l ++ [callM (doneM hs pre) x], some (.int x), ?_, ?_, ?_⟩
    · rw [List.map_append]
      rfl
    · rw [List.getLast?_append, done_snoc]
      rfl
    · rw [List.length_append, List.length_append, k3]
      rfl
/-! ### what the defs need -/
theorem need_two_ok {hs e : Hands} (H : HandsOk hs) (E : EndOk hs e) : G_need_two [dHs hs, dHs e] = some .non := by
  have h1 := H.lo
  have h2 := H.hi
  have n1 := need_hands_ok (hs := hs) (by omega) (by omega) H.ok
  have n2 := need_hands_ok (hs := e) (by rw [E.len]; omega) (by rw [E.len]; omega) E.rows
  refine run_nx (ρ := [some (dHs hs), some (dHs e)]) (seq_nx (drop_eq ((callE_eq (cons1 rfl) rfl).trans n1)) (seq_nx (drop_eq ((callE_eq (cons1 rfl) rfl).trans n2)) (if_f (asB_eq ((o2_eq ((bE_eq (cons1 rfl)).trans (len_hs hs)) ((bE_eq (cons1 rfl)).trans (len_hs e))).trans ((ne_int _ _).trans ?_))) rfl))) rfl
  rw [E.len]
  simp
theorem need_thing_ok {hs : Hands} (H : HandsOk hs) {t : Int} (mt : t ∈ thingsM hs) : G_need_thing [dHs hs, .int t] = some .non := by
  have ht := things_mem H.small mt
  refine run_nx (ρ := [some (dHs hs), some (.int t)]) (if_f ((or_f ((not_eq (asB_eq (b := true) ((callE_eq (cons3 rfl rfl (x := .int t) (y := .int 0) (z := .int 7) rfl) rfl).trans ((is_in_ok t 0 7).trans ?_)))).trans rfl)).trans (asB_eq ((o2_eq rfl ((callE_eq (cons1 rfl) rfl).trans (things_in_ok H.small))).trans ((in_lst true t _).trans ?_)))) rfl) rfl
  · rw [decide_eq_true (by omega)]
  · rw [decide_eq_true mt]
    rfl
theorem Ord.len {hs : Hands} {o : List Int} (O : Ord hs o) : o.length = hs.length := ((iter_mem _ _).mp (orders_mem.mpr O)).1
theorem Ord.sorted {hs : Hands} {o : List Int} (O : Ord hs o) : isort o = peop hs := by
  have nd := lt_nodup (peop_lt hs)
  refine up_uniq ((isort_perm o).trans ((List.perm_ext_iff_of_nodup O.nd nd).mpr fun k => O.all k)) (isort_up o) ((peop_lt hs).imp fun {a b} z => by omega)
theorem need_order_ok {hs : Hands} (H : HandsOk hs) {o : List Int} (O : Ord hs o) : G_need_order [dHs hs, dRow o] = some .non := by
  have h2 := H.hi
  have hol := O.len
  have e2 := lcE_all (t := .nm 3) (fi := tupE (vE 1)) (f := callE 3 G_is_in (consE (vE 3) (consE (cE (.int 0)) (consE (o2 subG (vE 2) (cE (.int 1))) nilE)))) (vs := [3]) (ρ := [some (dHs hs), some (dRow o), some (.int (hs.length : Nat)), none]) o D.int (fun x => [some (dHs hs), some (dRow o), some (.int (hs.length : Nat)), some (.int x)]) (fun x => .bl (decide (0 ≤ x ∧ x ≤ ((hs.length : Nat) : Int) - 1))) rfl (ocap (by omega)) fun x m => ⟨rfl, (callE_eq (cons3 rfl rfl (x := .int x) (y := .int 0) (z := .int (((hs.length : Nat) : Int) - 1)) rfl) rfl).trans (is_in_ok x 0 _)⟩
  have e1 : asB (callE 3 G_is_list (consE (vE 1) (consE (vE 2) (consE (vE 2) nilE)))) [some (dHs hs), some (dRow o), some (.int (hs.length : Nat)), none] = some true := by
    refine asB_eq ((callE_eq (cons3 rfl rfl rfl) rfl).trans ((is_list_ok (o.map .int) _ _).trans ?_))
    rw [List.length_map, decide_eq_true (by omega)]
  have e3 : asB (bE allG (consE (lcE (tupE (vE 1)) (.nm 3) tyE (callE 3 G_is_in (consE (vE 3) (consE (cE (.int 0)) (consE (o2 subG (vE 2) (cE (.int 1))) nilE)))) [3]) nilE)) [some (dHs hs), some (dRow o), some (.int (hs.length : Nat)), none] = some true := by
    refine asB_eq ((bE_eq (cons1 e2)).trans ?_)
    have em : (o.map fun x => D.bl (decide (0 ≤ x ∧ x ≤ ((hs.length : Nat) : Int) - 1))) = (o.map fun x => decide (0 ≤ x ∧ x ≤ ((hs.length : Nat) : Int) - 1)).map D.bl := by
      rw [List.map_map]
      rfl
    show (boolsOf (o.map fun x => D.bl (decide (0 ≤ x ∧ x ≤ ((hs.length : Nat) : Int) - 1)))).map _ = _
    rw [em, bools_map]
    have : ((o.map fun x => decide (0 ≤ x ∧ x ≤ ((hs.length : Nat) : Int) - 1)).all id) = true := by
      rw [List.all_map, List.all_eq_true]
      intro x m
      have := peop_mem.mp ((O.all x).mp m)
      exact decide_eq_true (by omega)
    show some (D.bl ((o.map fun x => decide (0 ≤ x ∧ x ≤ ((hs.length : Nat) : Int) - 1)).all id)) = _
    rw [this]
  have e4 : bE sortTG (consE (vE 1) nilE) [some (dHs hs), some (dRow o), some (.int (hs.length : Nat)), none] = some (.lst ((peop hs).map .int)) := by
    refine (bE_eq (cons1 (x := dRow o) rfl)).trans ?_
    show (intsOf (o.map .int)).map _ = _
    rw [intsOf_map, ← O.sorted]
    rfl
  have e5 : lrgE (vE 2) [some (dHs hs), some (dRow o), some (.int (hs.length : Nat)), none] = some (.lst ((peop hs).map .int)) := by
    show (if 0 ≤ ((hs.length : Nat) : Int) ∧ ((hs.length : Nat) : Int) ≤ 100000 then some (D.lst (rngD 0 ((hs.length : Nat) : Int))) else none) = _
    rw [if_pos ⟨by omega, by omega⟩, rng_peop]
  refine run_nx (ρ := [some (dHs hs), some (dRow o), none, none]) (seq_nx (set_eq ((bE_eq (cons1 rfl)).trans (len_hs hs))) (seq_nx (if_f (ρ := [some (dHs hs), some (dRow o), some (.int (hs.length : Nat)), none]) ((or_f (not_eq e1)).trans (not_eq e3)) rfl) (if_f (asB_eq ((o2_eq e4 e5).trans ((ne_lints _ _).trans ?_))) rfl))) rfl
  rw [decide_eq_true rfl]
  rfl
theorem end_of_ok {hs : Hands} (H : HandsOk hs) {o : List Int} (O : Ord hs o) : G_end_of [dHs hs, dRow o] = some (dHs (doneM hs o)) := by
  have h1 := H.lo
  have h2 := H.hi
  have n1 := need_hands_ok (hs := hs) (by omega) (by omega) H.ok
  obtain ⟨l, k1, k2⟩ := story_ok H.small (fun x m => (O.all x).mp m) (by rw [O.len]; omega)
  exact run_rt (ρ := [some (dHs hs), some (dRow o)]) (seq_nx (drop_eq ((callE_eq (cons1 rfl) rfl).trans n1)) (seq_nx (drop_eq ((callE_eq (cons2 rfl rfl) rfl).trans (need_order_ok H O))) (ret_eq ((o2_eq ((callE_eq (cons2 rfl rfl) rfl).trans k1) rfl).trans (ix_last dHs k2))))) rfl
/-! ### the law's own -/
theorem law_call_ok {hs : Hands} (s : Small hs) {p : Int} (hp : p ∈ peop hs) : G__law_call [dHs hs, .int p] = some (dHs (callM hs p)) := by
  have hlen := s.len
  obtain ⟨_, hpn, hpl⟩ := hat_get hp
  have inner := lcE_eq (t := .nm 3) (c := asB (o2 eqG (callE 2 G__law_holders (consE (vE 0) (consE (vE 3) nilE))) (lstE' (consE (vE 1) nilE)))) (f := vE 3) (fi := tupE (o2 ixG (vE 0) (vE 1))) (vs := [3]) (ρ := [some (dHs hs), some (.int p), none, none])
    (hat hs p) D.int (fun t => [some (dHs hs), some (.int p), none, some (.int t)]) (fun t => decide (holdM hs t = [p])) D.int (tupE_eq (ds := (hat hs p).map .int) ((o2_eq rfl rfl).trans (ix_hat hp))) (fcap (s.hl hp) (by omega)) fun t mt => ⟨rfl, asB_eq ((o2_eq ((callE_eq (cons2 rfl rfl) rfl).trans (lawhold_ok hs t (by omega))) (y := .lst ([p].map .int)) rfl).trans (eq_lints _ _)), fun _ => rfl⟩
  refine run_rt (ρ := [some (dHs hs), some (.int p), none, none]) (seq_nx (set_eq (d := dRow ((hat hs p).filter fun t => decide (holdM hs t = [p]))) ((bE_eq (cons1 inner)).trans rfl)) (ret_eq ?_)) rfl
  have e1 := sl_lo (f := vE 0) (g := vE 1) (ρ := [some (dHs hs), some (.int p), some (dRow ((hat hs p).filter fun t => decide (holdM hs t = [p]))), none]) (ds := hs.map dRow) (i := p.toNat) rfl (by rw [← hpn]; rfl) (by rw [List.length_map]; omega)
  have e2 := sl_hi (f := vE 0) (g := o2 addG (vE 1) (cE (.int 1))) (ρ := [some (dHs hs), some (.int p), some (dRow ((hat hs p).filter fun t => decide (holdM hs t = [p]))), none]) (ds := hs.map dRow) (i := p.toNat + 1) rfl (by
    rw [show (((p.toNat + 1 : Nat)) : Int) = p + 1 from by omega]
    exact (o2_eq (x := .int p) (y := .int 1) rfl rfl).trans (add_int p 1)) (by rw [List.length_map]; omega)
  have e3 := set_rows hpl ((hat hs p).filter fun t => decide (holdM hs t = [p]))
  have cat : ∀ a b : List D, a.length + b.length ≤ 100000 → catTG (.tup a) (.tup b) = some (.tup (a ++ b)) := fun a b h => by
    have h' : a.length + b.length ≤ cap := h
    simp only [catTG, if_pos h']
  refine (o2_eq ((o2_eq e1 (y := .tup [dRow ((hat hs p).filter fun t => decide (holdM hs t = [p]))]) rfl).trans (cat _ _ ?_)) e2).trans ((cat _ _ ?_).trans ?_)
  · rw [List.length_take, List.length_map, List.length_singleton]
    omega
  · rw [List.length_append, List.length_take, List.length_drop, List.length_map, List.length_singleton]
    omega
  · rw [List.append_assoc]
    show some (D.tup ((hs.map dRow).take p.toNat ++ dRow ((hat hs p).filter fun t => decide (holdM hs t = [p])) :: (hs.map dRow).drop (p.toNat + 1))) = _
    rw [← e3]
    rfl
theorem law_done_ok {hs : Hands} (s : Small hs) {o : List Int} (mo : ∀ x ∈ o, x ∈ peop hs) : G__law_done [dHs hs, dRow o] = some (dHs (doneM hs o)) := by
  have key := loopF_inv2 (t := .nm 2) (F := setF 0 (callE 2 G__law_call (consE (vE 0) (consE (vE 2) nilE)))) D.int (fun pre e => ∃ x2 : Option D, e = ⟨none, [some (dHs (doneM hs pre)), some (dRow o), x2]⟩) (L := o) (e := ⟨none, [some (dHs hs), some (dRow o), none]⟩) ⟨none, rfl⟩ ?_
  · obtain ⟨e2, k1, x2, rfl⟩ := key
    exact run_rt (ρ := [some (dHs hs), some (dRow o), none]) (seq_nx (for_eq (ds := o.map .int) rfl k1) (ret_eq rfl)) rfl
  · rintro pre x post e hL ⟨x2, rfl⟩
    have hx : x ∈ peop hs := mo x (by rw [hL]; simp)
    have sm : Small (doneM hs pre) := s.done fun y m => mo y (by rw [hL]; exact List.mem_append_left _ m)
    have hx' : x ∈ peop (doneM hs pre) := by
      rw [peop_of_len (len_done hs pre)]
      exact hx
    refine ⟨_, _, rfl, set_eq (ρ := [some (dHs (doneM hs pre)), some (dRow o), some (.int x)]) ((callE_eq (cons2 rfl rfl) rfl).trans (law_call_ok sm hx')), some (.int x), ?_⟩
    rw [done_snoc]
    rfl
end DL
end Part_PM4
section Part_PM5
set_option Elab.async false
set_option linter.all false
set_option maxRecDepth 100000
set_option maxHeartbeats 2000000
set_option autoImplicit false
namespace DL
open PySem L2
/-! ## two clauses -/
section
variable {α : Type} {t t1 : Tg} {c1 : En → Option Bool} {f : En → Option D} {fi fi1 : En → Option (List D)} {vs vs1 : List Nat} {ρ : En}
theorem comp2D_eq (enc : α → D) (ρx : α → En) (es zs : α → List D) : ∀ xs : List α, (∀ x ∈ xs, bdT t (enc x) ρ = some (ρx x) ∧ fi1 (ρx x) = some (es x) ∧ compD t1 c1 f (wipeE (ρx x) vs1) (es x) = some (zs x)) → comp2D t tyE fi1 t1 c1 f vs1 ρ (xs.map enc) = some (xs.flatMap zs)
  | [], _ => rfl
  | x :: xs, h => by
    obtain ⟨h1, h2, h3⟩ := h x (List.mem_cons_self ..)
    have ih := comp2D_eq enc ρx es zs xs fun y m => h y (List.mem_cons_of_mem _ m)
    simp only [List.map_cons, comp2D, h1, h2, h3, tyE, Option.bind_some, if_true, List.flatMap_cons]
    rw [ih]
    rfl
theorem lc2E_eq (xs : List α) (enc : α → D) (ρx : α → En) (es zs : α → List D) (hi : fi ρ = some (xs.map enc)) (hl : (xs.flatMap zs).length ≤ 100000)
    (h : ∀ x ∈ xs, bdT t (enc x) (wipeE ρ vs) = some (ρx x) ∧ fi1 (ρx x) = some (es x) ∧ compD t1 c1 f (wipeE (ρx x) vs1) (es x) = some (zs x)) : lc2E fi t tyE fi1 t1 c1 f vs vs1 ρ = some (.lst (xs.flatMap zs)) := by
  have hl' : (xs.flatMap zs).length ≤ cap := hl
  unfold lc2E
  rw [hi]
  simp only [Option.bind_some]
  rw [comp2D_eq enc ρx es zs xs h]
  simp only [Option.bind_some]
  unfold lstG
  rw [if_pos hl']
end
theorem compD_all {α : Type} {t : Tg} {f : En → Option D} {ρ : En} (enc : α → D) (ρx : α → En) (g : α → D) (xs : List α) (h : ∀ x ∈ xs, bdT t (enc x) ρ = some (ρx x) ∧ f (ρx x) = some (g x)) : compD t tyE f ρ (xs.map enc) = some (xs.map g) := by
  have e := compD_eq (t := t) (c := tyE) (f := f) (ρ := ρ) enc ρx (fun _ => true) g xs fun x m => ⟨(h x m).1, rfl, fun _ => (h x m).2⟩
  rw [List.filter_eq_self.mpr fun _ _ => rfl] at e
  exact e
/-! ## has_ring -/
theorem any_map (bs : List Bool) : anyG [.lst (bs.map D.bl)] = some (.bl (bs.any id)) := by
  show (boolsOf (bs.map D.bl)).map _ = _
  rw [bools_map]
  rfl
theorem any_lst {α : Type} (l : List α) (f : α → Bool) : anyG [.lst (l.map fun x => .bl (f x))] = some (.bl (l.any f)) := by
  have em : (l.map fun x => D.bl (f x)) = (l.map f).map D.bl := by
    rw [List.map_map]
    rfl
  rw [em, any_map, List.any_map]
  rfl
theorem and_eq {t u : En → Option Bool} {ρ : En} {a b : Bool} (h : t ρ = some a) (k : u ρ = some b) : andB t u ρ = some (a && b) := by
  unfold andB
  rw [h]
  cases a
  · rfl
  · exact k
theorem ix_pr0 (q : Int × Int) : ixG (dPr q) (.int 0) = some (.int q.1) := ix_of (l := dPr q) (ds := [.int q.1, .int q.2]) (i := 0) rfl rfl
theorem ix_pr1 (q : Int × Int) : ixG (dPr q) (.int 1) = some (.int q.2) := ix_of (l := dPr q) (ds := [.int q.1, .int q.2]) (i := 1) rfl rfl
abbrev ringC : En → Option Bool := asB (o2 neG (vE 1) (lstE' nilE))
abbrev ringT : En → Option Bool := notB (asB (bE anyG (consE (lcE (lstE (vE 0)) (.nm 3) tyE (blE (andB (asB (o2 eqG (o2 ixG (vE 3) (cE (.int 1))) (vE 4))) (asB (o2 (inG false) (o2 ixG (vE 3) (cE (.int 0))) (vE 1))))) [3]) nilE)))
abbrev ringB : ES → Option Out := (seqF (setF 2 (lcE (lstE (vE 1)) (.nm 4) ringT (vE 4) [4]))
  (seqF (ifF (asB (o2 eqG (vE 2) (lstE' nilE))) (retF (cE (.bl true))) nextF)
  (setF 1 (lcE (lstE (vE 1)) (.nm 4) (asB (o2 (inG true) (vE 4) (vE 2))) (vE 4) [4]))))
theorem ring_t {st : List (Int × Int)} (hst : st.length ≤ 1000) (left : List Int) (x2 : Option D) (p : Int) : ringT [some (.lst (st.map dPr)), some (.lst (left.map .int)), x2, none, some (.int p)] = some (!(st.any fun q => decide (q.2 = p) && decide (q.1 ∈ left))) := by
  have e := lcE_all (t := .nm 3) (fi := lstE (vE 0)) (f := blE (andB (asB (o2 eqG (o2 ixG (vE 3) (cE (.int 1))) (vE 4))) (asB (o2 (inG false) (o2 ixG (vE 3) (cE (.int 0))) (vE 1))))) (vs := [3]) (ρ := [some (.lst (st.map dPr)), some (.lst (left.map .int)), x2, none, some (.int p)])
    st dPr (fun q => [some (.lst (st.map dPr)), some (.lst (left.map .int)), x2, some (dPr q), some (.int p)]) (fun q => .bl (decide (q.2 = p) && decide (q.1 ∈ left))) rfl (ocap (by omega)) fun q mq => ⟨rfl, bl_eq (and_eq (asB_eq ((o2_eq ((o2_eq rfl rfl).trans (ix_pr1 q)) rfl).trans (eq_int _ _))) (asB_eq ((o2_eq ((o2_eq rfl rfl).trans (ix_pr0 q)) rfl).trans (in_lst false _ _))))⟩
  exact not_eq (asB_eq ((bE_eq (cons1 e)).trans (any_lst st _)))
theorem ring_c {st : List (Int × Int)} (left : List Int) (x2 x3 x4 : Option D) : ringC [some (.lst (st.map dPr)), some (.lst (left.map .int)), x2, x3, x4] = some (!decide (left = [])) :=
  asB_eq ((o2_eq (y := .lst (([] : List Int).map .int)) rfl rfl).trans (ne_lints left []))
section
variable {F : ES → Option Out} {c : En → Option Bool} {ρ : En} {n : Nat} {d : D} {e : ES}
theorem wh_nx (h : c ρ = some true) (k : F ⟨none, ρ⟩ = some (.nx e)) : whF c F (n + 1) ⟨none, ρ⟩ = whF c F n e := by
  show (c ρ).bind _ = _
  rw [h]
  show (F ⟨none, ρ⟩).bind _ = _
  rw [k]
  rfl
theorem wh_rt (h : c ρ = some true) (k : F ⟨none, ρ⟩ = some (.rt d)) : whF c F (n + 1) ⟨none, ρ⟩ = some (.rt d) := by
  show (c ρ).bind _ = _
  rw [h]
  show (F ⟨none, ρ⟩).bind _ = _
  rw [k]
  rfl
end
theorem ring_loop {st : List (Int × Int)} (hst : st.length ≤ 1000) : ∀ (n : Nat) (left : List Int) (x2 : Option D), left.length < n → n ≤ 1000 →
    ∃ o, whF ringC ringB n ⟨none, [some (.lst (st.map dPr)), some (.lst (left.map .int)), x2, none, none]⟩ = some o ∧ ((ringM st n left = true ∧ o = .rt (.bl true)) ∨ (ringM st n left = false ∧ ∃ x1 x2, o = .nx ⟨none, [some (.lst (st.map dPr)), x1, x2, none, none]⟩))
  | 0, _, _, h, _ => absurd h (Nat.not_lt_zero _)
  | n + 1, left, x2, h, hn => by
    have ec := ring_c (st := st) left x2 none none
    by_cases hl : left = []
    · refine ⟨.nx ⟨none, [some (.lst (st.map dPr)), some (.lst (left.map .int)), x2, none, none]⟩, ?_, .inr ⟨?_, _, _, rfl⟩⟩
      · show (ringC [some (.lst (st.map dPr)), some (.lst (left.map .int)), x2, none, none]).bind _ = _
        rw [ec, decide_eq_true hl]
        rfl
      · unfold ringM
        rw [if_pos hl]
    · have e1 := lcE_eq (t := .nm 4) (fi := lstE (vE 1)) (c := ringT) (f := vE 4) (vs := [4]) (ρ := [some (.lst (st.map dPr)), some (.lst (left.map .int)), x2, none, none]) left D.int (fun p => [some (.lst (st.map dPr)), some (.lst (left.map .int)), x2, none, some (.int p)]) (fun p => !(st.any fun q => decide (q.2 = p) && decide (q.1 ∈ left))) D.int rfl (fcap (n := 1000) (by omega) (by omega)) fun p mp => ⟨rfl, ring_t hst left x2 p, fun _ => rfl⟩
      have e2 : asB (o2 eqG (vE 2) (lstE' nilE)) [some (.lst (st.map dPr)), some (.lst (left.map .int)), some (.lst ((freeM st left).map .int)), none, none] = some (decide (freeM st left = [])) :=
        asB_eq ((o2_eq (y := .lst (([] : List Int).map .int)) rfl rfl).trans (eq_lints (freeM st left) []))
      by_cases hf : freeM st left = []
      · refine ⟨.rt (.bl true), ?_, .inl ⟨?_, rfl⟩⟩
        · exact wh_rt (ec.trans (by rw [decide_eq_false hl]; rfl)) (seq_nx (set_eq e1) (seq_rt (if_t (ρ := [some (.lst (st.map dPr)), some (.lst (left.map .int)), some (.lst ((freeM st left).map .int)), none, none]) (e2.trans (by rw [decide_eq_true hf])) (ret_eq rfl))))
        · unfold ringM
          rw [if_neg hl, if_pos hf]
      · have e3 := lcE_eq (t := .nm 4) (fi := lstE (vE 1)) (c := asB (o2 (inG true) (vE 4) (vE 2))) (f := vE 4) (vs := [4]) (ρ := [some (.lst (st.map dPr)), some (.lst (left.map .int)), some (.lst ((freeM st left).map .int)), none, none]) left D.int (fun p => [some (.lst (st.map dPr)), some (.lst (left.map .int)), some (.lst ((freeM st left).map .int)), none, some (.int p)]) (fun p => decide (p ∉ freeM st left)) D.int rfl (fcap (n := 1000) (by omega) (by omega)) fun p mp => ⟨rfl, asB_eq ((o2_eq rfl rfl).trans ((in_lst true p (freeM st left)).trans (by rw [decide_not]; rfl))), fun _ => rfl⟩
        have hr := rest_len hf
        obtain ⟨o, k1, k2⟩ := ring_loop hst n (restM st left) (some (.lst ((freeM st left).map .int))) (by omega) (by omega)
        refine ⟨o, ?_, ?_⟩
        · exact (wh_nx (ec.trans (by rw [decide_eq_false hl]; rfl)) (seq_nx (set_eq e1) (seq_nx (if_f (ρ := [some (.lst (st.map dPr)), some (.lst (left.map .int)), some (.lst ((freeM st left).map .int)), none, none]) (e2.trans (by rw [decide_eq_false hf])) rfl) (set_eq e3)))).trans k1
        · have er : ringM st (n + 1) left = ringM st n (restM st left) := by
            show (if left = [] then false else if freeM st left = [] then true else ringM st n (restM st left)) = _
            rw [if_neg hl, if_neg hf]
          rw [er]
          exact k2
theorem has_ring_ok {st : List (Int × Int)} (hst : st.length ≤ 1000) (ha : (allM st).length < 12) : G_has_ring [.lst (st.map dPr)] = some (.bl (hasM st)) := by
  have e1 : lc2E (lstE (vE 0)) (.nm 3) tyE (tupE (vE 3)) (.nm 4) tyE (vE 4) [3, 4] [4] [some (.lst (st.map dPr)), none, none, none, none] = some (.lst ((st.flatMap fun q => [q.1, q.2]).map .int)) := by
    have e := lc2E_eq (t := .nm 3) (t1 := .nm 4) (c1 := tyE) (f := vE 4) (fi := lstE (vE 0)) (fi1 := tupE (vE 3)) (vs := [3, 4]) (vs1 := [4]) (ρ := [some (.lst (st.map dPr)), none, none, none, none]) st dPr (fun q => [some (.lst (st.map dPr)), none, none, some (dPr q), none]) (fun q => [.int q.1, .int q.2]) (fun q => [.int q.1, .int q.2]) rfl ?_ fun q mq => ⟨rfl, rfl, rfl⟩
    · rw [e, List.map_flatMap]
      rfl
    · rw [List.length_flatMap]
      have : (st.map fun a => ([D.int a.1, D.int a.2] : List D).length).sum = 2 * st.length := by
        clear hst ha
        induction st with
        | nil => rfl
        | cons q st ih =>
          simp only [List.map_cons, List.sum_cons, List.length_cons, List.length_nil] at ih ⊢
          omega
      rw [this]
      omega
  have hfl : (st.flatMap fun q => [q.1, q.2]).length = 2 * st.length := by
    clear hst ha e1
    induction st with
    | nil => rfl
    | cons q st ih =>
      simp only [List.flatMap_cons, List.length_append, List.length_cons, List.length_nil] at ih ⊢
      omega
  have e2 := usortE_eq (us := allM st) e1 (by omega) (fun k m => (usort_mem k _).mpr m) (by omega)
  obtain ⟨o, k1, k2⟩ := ring_loop hst 12 (allM st) none ha (by omega)
  have run : ∀ d, seqF (whF ringC ringB 12) (retF (cE (.bl false))) ⟨none, [some (.lst (st.map dPr)), some (.lst ((allM st).map .int)), none, none, none]⟩ = some (.rt d) → G_has_ring [.lst (st.map dPr)] = some d := fun d hd =>
    run_rt (ρ := [some (.lst (st.map dPr)), none, none, none, none]) (seq_nx (set_eq e2) hd) rfl
  rcases k2 with ⟨h1, rfl⟩ | ⟨h1, x1, x2, rfl⟩
  · rw [run (.bl true) (seq_rt k1)]
    show _ = some (D.bl (ringM st 12 (allM st)))
    rw [h1]
  · rw [run (.bl false) (seq_nx k1 (ret_eq rfl))]
    show _ = some (D.bl (ringM st 12 (allM st)))
    rw [h1]
/-! ## steps_of -/
theorem steps_len {hs : Hands} (hl : hs.length ≤ 5) : ∀ kv : List (Int × Int), (stepsM hs kv).length ≤ 5 * kv.length
  | [] => Nat.le_refl _
  | q :: kv => by
    have ih := steps_len hl kv
    have h1 : (holdM hs q.1).length ≤ 5 := by
      have := List.length_filter_le (fun p => decide (q.1 ∈ hat hs p)) (peop hs)
      rw [peop_len] at this
      exact Nat.le_trans this hl
    have h2 := List.length_filter_le (fun p => decide (p ≠ q.2)) (holdM hs q.1)
    have e : stepsM hs (q :: kv) = ((holdM hs q.1).filter fun p => decide (p ≠ q.2)).map (fun p => (p, q.2)) ++ stepsM hs kv := by
      unfold stepsM
      rw [List.flatMap_cons]
    rw [e, List.length_append, List.length_map, List.length_cons]
    omega
theorem steps_snoc (hs : Hands) (kv : List (Int × Int)) (q : Int × Int) : stepsM hs (kv ++ [q]) = stepsM hs kv ++ ((holdM hs q.1).filter fun p => decide (p ≠ q.2)).map fun p => (p, q.2) := by
  rw [steps_app]
  unfold stepsM
  rw [List.flatMap_cons, List.flatMap_nil, List.append_nil]
abbrev stepB : ES → Option Out := growF 2 (lstE (lcE (lstE (callE 2 G_holders_in (consE (vE 0) (consE (vE 3) nilE)))) (.nm 5) (asB (o2 neG (vE 5) (vE 4))) (tupE' (consE (vE 5) (consE (vE 4) nilE))) [5]))
theorem steps_of_ok {hs : Hands} (hl : hs.length ≤ 5) {kv : List (Int × Int)} (hk : kv.length ≤ 100) : G_steps_of [dHs hs, .dic kv] = some (.lst ((stepsM hs kv).map dPr)) := by
  have key := loopF_inv2 (t := .pr 3 4) (F := stepB) dPr
    (fun pre e => ∃ x3 x4 : Option D, e = ⟨some 2, [some (dHs hs), none, some (.lst ((stepsM hs pre).map dPr)), x3, x4, none]⟩) (L := kv) (e := ⟨some 2, [some (dHs hs), none, some (.lst []), none, none, none]⟩) ⟨none, none, rfl⟩ ?_
  · obtain ⟨e2, k1, x3, x4, rfl⟩ := key
    have hit : itF 1 (.pr 3 4) stepB ⟨some 2, [some (dHs hs), some (.dic kv), some (.lst []), none, none, none]⟩ = some (.nx ⟨some 2, [some (dHs hs), none, some (.lst ((stepsM hs kv).map dPr)), x3, x4, none]⟩) := by
      refine Eq.trans ?_ k1
      show (if okE [some (dHs hs), none, some (.lst []), none, none, none] = true ∧ (some 2 : Option Nat) ≠ some 1 then loopF (.pr 3 4) stepB (itmD kv) ⟨some 2, [some (dHs hs), none, some (.lst []), none, none, none]⟩ else none) = _
      have h60 : dOk 60 (dHs hs) = true := dOk_Hs 58 hs
      have ok : okE [some (dHs hs), none, some (.lst []), none, none, none] = true := by simp [okE, okO, h60, dOk, dOks]
      exact if_pos ⟨ok, by simp⟩
    exact run_rt (ρ := [some (dHs hs), some (.dic kv), none, none, none, none]) (seq_nx (own_eq (by simp)) (seq_nx hit (ret_eq rfl))) rfl
  · rintro pre q post e hL ⟨x3, x4, rfl⟩
    have hpl : pre.length + 1 ≤ kv.length := by
      rw [hL, List.length_append, List.length_cons]
      omega
    have h1 : (holdM hs q.1).length ≤ 5 := by
      have := List.length_filter_le (fun p => decide (q.1 ∈ hat hs p)) (peop hs)
      rw [peop_len] at this
      exact Nat.le_trans this hl
    have h3 := steps_len hl pre
    have e1 := lcE_eq (t := .nm 5) (fi := lstE (callE 2 G_holders_in (consE (vE 0) (consE (vE 3) nilE)))) (c := asB (o2 neG (vE 5) (vE 4))) (f := tupE' (consE (vE 5) (consE (vE 4) nilE))) (vs := [5]) (ρ := [some (dHs hs), none, none, some (.int q.1), some (.int q.2), none])
      (holdM hs q.1) D.int (fun p => [some (dHs hs), none, none, some (.int q.1), some (.int q.2), some (.int p)]) (fun p => decide (p ≠ q.2)) (fun p => dPr (p, q.2)) (lstE_eq ((callE_eq (cons2 rfl rfl) rfl).trans (holders_in_ok hs q.1 (by omega)))) (fcap h1 (by omega)) fun p mp => ⟨rfl, asB_eq ((o2_eq rfl rfl).trans (ne_int p q.2)), fun _ => tup_eq (cons2 rfl rfl) (by simp)⟩
    refine ⟨_, _, rfl, grow_eq (k := 2) (ρ := [some (dHs hs), none, some (.lst ((stepsM hs pre).map dPr)), some (.int q.1), some (.int q.2), none]) rfl (lstE_eq e1) ?_, some (.int q.1), some (.int q.2), ?_⟩
    · have h4 := List.length_filter_le (fun p => decide (p ≠ q.2)) (holdM hs q.1)
      rw [List.length_map, List.length_map]
      omega
    · rw [steps_snoc, List.map_append, List.map_map]
      rfl
end DL
end Part_PM5
section Part_PM6
set_option Elab.async false
set_option linter.all false
set_option maxRecDepth 100000
set_option maxHeartbeats 2000000
set_option autoImplicit false
namespace DL
open PySem L2
/-! ## keepers_in -/
def partM (hs : Hands) (t : Int) (kv : List (Int × Int)) (ps : List Int) : List (List (Int × Int)) := (ps.map fun p => kv ++ [(t, p)]).filter fun l => !hasM (stepsM hs l)
theorem part_snoc (hs : Hands) (t : Int) (kv : List (Int × Int)) (ps : List Int) (p : Int) : partM hs t kv (ps ++ [p]) = partM hs t kv ps ++ if hasM (stepsM hs (kv ++ [(t, p)])) = true then [] else [kv ++ [(t, p)]] := by
  unfold partM
  rw [List.map_append, List.filter_append]
  congr 1
  show List.filter _ [kv ++ [(t, p)]] = _
  cases h : hasM (stepsM hs (kv ++ [(t, p)])) <;> simp [h]
theorem part_len (hs : Hands) (t : Int) (kv : List (Int × Int)) (ps : List Int) : (partM hs t kv ps).length ≤ ps.length := by
  have := List.length_filter_le (fun l => !hasM (stepsM hs l)) (ps.map fun p => kv ++ [(t, p)])
  rw [List.length_map] at this
  exact this
theorem grow_snoc (hs : Hands) (t : Int) (fs : List (List (Int × Int))) (kv : List (Int × Int)) : growM hs t (fs ++ [kv]) = growM hs t fs ++ partM hs t kv (holdM hs t) := by
  unfold growM
  rw [List.flatMap_append, List.flatMap_cons, List.flatMap_nil, List.append_nil]
  rfl
theorem hold_len {hs : Hands} (hl : hs.length ≤ 5) (t : Int) : (holdM hs t).length ≤ 5 := by
  have := List.length_filter_le (fun p => decide (t ∈ hat hs p)) (peop hs)
  rw [peop_len] at this
  exact Nat.le_trans this hl
theorem grow_len {hs : Hands} (hl : hs.length ≤ 5) (t : Int) : ∀ fs : List (List (Int × Int)), (growM hs t fs).length ≤ 5 * fs.length
  | [] => Nat.le_refl _
  | kv :: fs => by
    have ih := grow_len hl t fs
    have h1 := part_len hs t kv (holdM hs t)
    have h2 := hold_len hl t
    have e : growM hs t (kv :: fs) = partM hs t kv (holdM hs t) ++ growM hs t fs := by
      unfold growM
      rw [List.flatMap_cons]
      rfl
    rw [e, List.length_append, List.length_cons]
    omega
theorem fold_snoc (hs : Hands) (ts : List Int) (t : Int) (fs : List (List (Int × Int))) : foldM hs (ts ++ [t]) fs = growM hs t (foldM hs ts fs) := by
  unfold foldM
  rw [List.foldl_append]
  rfl
theorem fold_len {hs : Hands} (hl : hs.length ≤ 5) : ∀ ts : List Int, (foldM hs ts [[]]).length ≤ 5 ^ ts.length := by
  intro ts
  have gen : ∀ (ts : List Int) (fs : List (List (Int × Int))), (foldM hs ts fs).length ≤ 5 ^ ts.length * fs.length := by
    intro ts
    induction ts with
    | nil =>
      intro fs
      rw [List.length_nil, Nat.pow_zero, Nat.one_mul]
      exact Nat.le_refl _
    | cons t ts ih =>
      intro fs
      refine Nat.le_trans (ih (growM hs t fs)) ?_
      rw [List.length_cons, Nat.pow_succ, Nat.mul_assoc]
      exact Nat.mul_le_mul_left _ (grow_len hl t fs)
  have := gen ts [[]]
  simpa using this
theorem fold_on {hs : Hands} (hl : hs.length ≤ 5) {ts : List Int} {kv : List (Int × Int)} (m : kv ∈ foldM hs ts [[]]) : KeepOn hs ts kv := by
  have := fold_mem hl ts [] [[]] (fun kv => by
    rw [List.mem_singleton]
    constructor
    · rintro rfl
      exact ⟨rfl, (fun _ m => nomatch m), ⟨fun _ => 0, fun _ m => nomatch m⟩⟩
    · intro h
      exact List.map_eq_nil_iff.mp h.fst) kv
  rw [List.nil_append] at this
  exact this.mp m
theorem mrg_eq {fm fk fv : En → Option D} {ρ : En} {kv : List (Int × Int)} {i j : Int} (h1 : fm ρ = some (.dic kv)) (h2 : fk ρ = some (.int i)) (h3 : fv ρ = some (.int j)) (hn : i ∉ kv.map (·.1)) (hl : kv.length ≤ 900) : mrgE fm fk fv ρ = some (.dic (kv ++ [(i, j)])) := by
  unfold mrgE
  rw [h1, h2, h3]
  simp only [Option.bind_some]
  rw [if_pos ⟨hn, hl⟩]
theorem ring_on {hs : Hands} (hl : hs.length ≤ 5) {kv : List (Int × Int)} (hk : kv.length ≤ 100) (ok : ∀ q ∈ kv, q.2 ∈ holdM hs q.1) : (G_steps_of [dHs hs, .dic kv]).bind (fun d => G_has_ring [d]) = some (.bl (hasM (stepsM hs kv))) := by
  rw [steps_of_ok hl hk]
  have h1 := steps_len hl kv
  have h2 := allM_len (steps_peop ok)
  exact has_ring_ok (by omega) (by omega)
theorem ring_at {hs : Hands} (hl : hs.length ≤ 5) {kv : List (Int × Int)} (hk : kv.length ≤ 100) (ok : ∀ q ∈ kv, q.2 ∈ holdM hs q.1) {f g : En → Option D} {ρ : En} (h1 : f ρ = some (dHs hs)) (h2 : g ρ = some (.dic kv)) :
    asB (callE 1 G_has_ring (consE (callE 2 G_steps_of (consE f (consE g nilE))) nilE)) ρ = some (hasM (stepsM hs kv)) := by
  have h3 := steps_len hl kv
  have h4 := allM_len (steps_peop ok)
  exact asB_eq ((callE_eq (cons1 ((callE_eq (cons2 h1 h2) rfl).trans (steps_of_ok hl hk))) rfl).trans (has_ring_ok (by omega) (by omega)))
abbrev kepB : ES → Option Out := (seqF (setF 6 (mrgE (vE 4) (vE 2) (vE 5)))
  (ifF (notB (asB (callE 1 G_has_ring (consE (callE 2 G_steps_of (consE (vE 0) (consE (vE 6) nilE))) nilE)))) (appF 3 (vE 6)) nextF))
theorem kep_in {hs : Hands} (H : HandsOk hs) {pre : List Int} {t : Int} {kv : List (Int × Int)} (mt : t ∉ pre) (K : KeepOn hs pre kv) (hp : pre.length ≤ 6) {acc : List (List (Int × Int))} (ha : acc.length ≤ 90000) (fd : D) (x5 x6 : Option D) :
    ∃ y5 y6 : Option D, forF (lstE (callE 2 G_holders_in (consE (vE 0) (consE (vE 2) nilE)))) (.nm 5) kepB ⟨some 3, [some (dHs hs), some fd, some (.int t), some (.lst (acc.map .dic)), some (.dic kv), x5, x6]⟩ = some (.nx ⟨some 3, [some (dHs hs), some fd, some (.int t), some (.lst ((acc ++ partM hs t kv (holdM hs t)).map .dic)), some (.dic kv), y5, y6]⟩) := by
  have hl := H.hi
  have hkl : kv.length ≤ 6 := by
    have := congrArg List.length K.fst
    rw [List.length_map] at this
    omega
  have hh := hold_len hl t
  have key := loopF_inv2 (t := .nm 5) (F := kepB) D.int (fun ps e => ∃ x5 x6 : Option D, e = ⟨some 3, [some (dHs hs), some fd, some (.int t), some (.lst ((acc ++ partM hs t kv ps).map .dic)), some (.dic kv), x5, x6]⟩)
    (L := holdM hs t) (e := ⟨some 3, [some (dHs hs), some fd, some (.int t), some (.lst (acc.map .dic)), some (.dic kv), x5, x6]⟩) ⟨x5, x6, by
      have : partM hs t kv [] = [] := rfl
      rw [this, List.append_nil]⟩ ?_
  · obtain ⟨e2, k1, x5', x6', rfl⟩ := key
    refine ⟨x5', x6', forO_eq (lstE_eq ((callE_eq (cons2 rfl rfl) rfl).trans (holders_in_ok hs t (by omega)))) k1⟩
  · rintro ps p post e hL ⟨x5, x6, rfl⟩
    have mp : p ∈ holdM hs t := by rw [hL]; simp
    have hpl : ps.length ≤ 5 := by
      have : ps.length ≤ (holdM hs t).length := by rw [hL, List.length_append]; omega
      omega
    have hpart := part_len hs t kv ps
    have ok : ∀ q ∈ kv ++ [(t, p)], q.2 ∈ holdM hs q.1 := fun q mq => by
      rcases List.mem_append.mp mq with m | m
      · exact K.ok q m
      · rw [List.mem_singleton.mp m]
        exact mp
    have ring := ring_at (f := vE 0) (g := vE 6) (ρ := [some (dHs hs), some fd, some (.int t), none, some (.dic kv), some (.int p), some (.dic (kv ++ [(t, p)]))]) hl (by rw [List.length_append, List.length_singleton]; omega) ok rfl rfl
    have set6 := setO_eq (k := 3) (i := 6) (f := mrgE (vE 4) (vE 2) (vE 5)) (ρ := [some (dHs hs), some fd, some (.int t), some (.lst ((acc ++ partM hs t kv ps).map .dic)), some (.dic kv), some (.int p), x6]) (by decide) (mrg_eq rfl rfl rfl (by rw [K.fst]; exact mt) (by omega))
    cases hr : hasM (stepsM hs (kv ++ [(t, p)])) with
    | true =>
      rw [hr] at ring
      refine ⟨_, _, rfl, seq_nx set6 (ifO_f (k := 3) (ρ := [some (dHs hs), some fd, some (.int t), some (.lst ((acc ++ partM hs t kv ps).map .dic)), some (.dic kv), some (.int p), some (.dic (kv ++ [(t, p)]))]) (not_eq ring) rfl), some (.int p), some (.dic (kv ++ [(t, p)])), ?_⟩
      rw [part_snoc, hr, if_pos rfl, List.append_nil]
    | false =>
      rw [hr] at ring
      refine ⟨_, _, rfl, seq_nx set6 (ifO_t (k := 3) (ρ := [some (dHs hs), some fd, some (.int t), some (.lst ((acc ++ partM hs t kv ps).map .dic)), some (.dic kv), some (.int p), some (.dic (kv ++ [(t, p)]))]) (not_eq ring) (app_eq (k := 3) (ds := (acc ++ partM hs t kv ps).map .dic) rfl rfl ?_)), some (.int p), some (.dic (kv ++ [(t, p)])), ?_⟩
      · rw [List.length_map, List.length_append]
        omega
      · rw [part_snoc, hr, if_neg (by decide), ← List.append_assoc, List.map_append (l₂ := [kv ++ [(t, p)]])]
        rfl
theorem keepers_in_ok {hs : Hands} (H : HandsOk hs) : G_keepers_in [dHs hs] = some (.lst ((kepM hs).map .dic)) := by
  have hl := H.hi
  have htl := things_len H.small
  have nd := lt_nodup (thingsM_lt hs)
  have key := loopF_inv2 (t := .nm 2) (F := (seqF (ownF 3) (seqF (forF (lstE (vE 1)) (.nm 4) (forF (lstE (callE 2 G_holders_in (consE (vE 0) (consE (vE 2) nilE)))) (.nm 5) kepB)) (setRF 1 (vE 3))))) D.int
    (fun pre e => ∃ x2 x3 x4 x5 x6 : Option D, e = ⟨none, [some (dHs hs), some (.lst ((foldM hs pre [[]]).map .dic)), x2, x3, x4, x5, x6]⟩) (L := thingsM hs) (e := ⟨none, [some (dHs hs), some (.lst [.dic []]), none, none, none, none, none]⟩) ⟨none, none, none, none, none, rfl⟩ ?_
  · obtain ⟨e2, k1, x2, x3, x4, x5, x6, rfl⟩ := key
    exact run_rt (ρ := [some (dHs hs), none, none, none, none, none, none]) (seq_nx (set_eq (d := .lst [.dic []]) (lst_eq (cons1 rfl) (by simp))) (seq_nx (for_eq (lstE_eq ((callE_eq (cons1 rfl) rfl).trans (things_in_ok H.small))) k1) (ret_eq rfl))) rfl
  · rintro pre t post e hL ⟨x2, x3, x4, x5, x6, rfl⟩
    have hpre : pre.length ≤ 5 := by
      rw [hL, List.length_append, List.length_cons] at htl
      omega
    have mt : t ∉ pre := fun m => by
      rw [hL, List.nodup_append] at nd
      exact nd.2.2 t m t (List.mem_cons_self ..) rfl
    have hfl : (foldM hs pre [[]]).length ≤ 3125 := Nat.le_trans (fold_len hl pre) (Nat.le_trans (Nat.pow_le_pow_right (by decide) hpre) (by decide))
    have inner := loopF_inv2 (t := .nm 4) (F := forF (lstE (callE 2 G_holders_in (consE (vE 0) (consE (vE 2) nilE)))) (.nm 5) kepB) D.dic
      (fun fs e => ∃ x4 x5 x6 : Option D, e = ⟨some 3, [some (dHs hs), some (.lst ((foldM hs pre [[]]).map .dic)), some (.int t), some (.lst ((growM hs t fs).map .dic)), x4, x5, x6]⟩) (L := foldM hs pre [[]]) (e := ⟨some 3, [some (dHs hs), some (.lst ((foldM hs pre [[]]).map .dic)), some (.int t), some (.lst []), x4, x5, x6]⟩) ⟨x4, x5, x6, rfl⟩ ?_
    · obtain ⟨e2, k1, x4', x5', x6', rfl⟩ := inner
      refine ⟨_, _, rfl, seq_nx (own_eq (k := 3) (ρ := [some (dHs hs), some (.lst ((foldM hs pre [[]]).map .dic)), some (.int t), x3, x4, x5, x6]) (by simp)) (seq_nx (forO_eq (k := 3) (ρ := [some (dHs hs), some (.lst ((foldM hs pre [[]]).map .dic)), some (.int t), some (.lst []), x4, x5, x6]) rfl k1) (setR_eq rfl)), some (.int t), some (.lst ((growM hs t (foldM hs pre [[]])).map .dic)), x4', x5', x6', ?_⟩
      rw [fold_snoc]
      rfl
    · rintro fs kv post2 e hF ⟨x4, x5, x6, rfl⟩
      have K := fold_on hl (show kv ∈ foldM hs pre [[]] by rw [hF]; simp)
      have hg := grow_len hl t fs
      have hfs : fs.length ≤ 3125 := by
        have : fs.length ≤ (foldM hs pre [[]]).length := by rw [hF, List.length_append]; omega
        omega
      obtain ⟨y5, y6, q⟩ := kep_in H mt K (by omega) (acc := growM hs t fs) (by omega) (.lst ((foldM hs pre [[]]).map .dic)) x5 x6
      exact ⟨_, _, rfl, q, some (.dic kv), y5, y6, by rw [grow_snoc]⟩
/-! ## ends -/
def rowE (hs : Hands) (kv : List (Int × Int)) (p : Int) : Hand := (hat hs p).filter fun t => decide (kv.lookup t = some p)
theorem look_some {kv : List (Int × Int)} {t k : Int} (h : kv.lookup t = some k) : lookG (.dic kv) (.int t) = some (.int k) := by
  show (kv.lookup t).map D.int = _
  rw [h]
  rfl
theorem end_by_ok {hs : Hands} (H : HandsOk hs) {kv : List (Int × Int)} (K : Keep hs kv) : G_end_by [dHs hs, .dic kv] = some (dHs (endM hs kv)) := by
  have hl := H.hi
  have key := loopF_inv2 (t := .nm 3) (F := appF 2 (bE tupleG (consE (lcE (tupE (o2 ixG (vE 0) (vE 3))) (.nm 4) (asB (o2 eqG (o2 lookG (vE 1) (vE 4)) (vE 3))) (vE 4) [4]) nilE))) D.int
    (fun pre e => ∃ x3 : Option D, e = ⟨some 2, [some (dHs hs), some (.dic kv), some (.lst ((pre.map (rowE hs kv)).map dRow)), x3, none]⟩) (L := peop hs) (e := ⟨some 2, [some (dHs hs), some (.dic kv), some (.lst []), none, none]⟩) ⟨none, rfl⟩ ?_
  · obtain ⟨e2, k1, x3, rfl⟩ := key
    refine run_rt (ρ := [some (dHs hs), some (.dic kv), none, none, none]) (seq_nx (own_eq (by simp)) (seq_nx (forO_eq (k := 2) (ρ := [some (dHs hs), some (.dic kv), some (.lst []), none, none]) (?_ : _ = some ((peop hs).map .int)) k1) (ret_eq ?_))) rfl
    · exact (rg1_eq (n := hs.length) (cons1 ((bE_eq (cons1 rfl)).trans (len_hs hs))) (by omega)).trans (by rw [peop_enc])
    · exact (bE_eq (cons1 rfl)).trans rfl
  · rintro pre p post e hL ⟨x3, rfl⟩
    have hp : p ∈ peop hs := by rw [hL]; simp
    have hpre : pre.length ≤ 5 := by
      have : pre.length ≤ (peop hs).length := by rw [hL, List.length_append]; omega
      rw [peop_len] at this
      omega
    have inner := lcE_eq (t := .nm 4) (fi := tupE (o2 ixG (vE 0) (vE 3))) (c := asB (o2 eqG (o2 lookG (vE 1) (vE 4)) (vE 3))) (f := vE 4) (vs := [4]) (ρ := [some (dHs hs), some (.dic kv), none, some (.int p), none]) (hat hs p) D.int (fun t => [some (dHs hs), some (.dic kv), none, some (.int p), some (.int t)]) (fun t => decide (kv.lookup t = some p)) D.int (tupE_eq (ds := (hat hs p).map .int) ((o2_eq rfl rfl).trans (ix_hat hp))) (fcap (H.small.hl hp) (by omega)) fun t mt => ⟨rfl, ?_, fun _ => rfl⟩
    · refine ⟨_, _, rfl, app_eq (k := 2) (ρ := [some (dHs hs), some (.dic kv), some (.lst ((pre.map (rowE hs kv)).map dRow)), some (.int p), none]) (ds := (pre.map (rowE hs kv)).map dRow) (d := dRow (rowE hs kv p)) rfl ((bE_eq (cons1 inner)).trans rfl) (by rw [List.length_map, List.length_map]; omega), some (.int p), ?_⟩
      rw [List.map_append, List.map_append]
      rfl
    · obtain ⟨k, h1, _, _⟩ := K.get (things_of hp mt)
      refine asB_eq ((o2_eq ((o2_eq rfl rfl).trans (look_some h1)) rfl).trans ((eq_int k p).trans ?_))
      rw [h1]
      simp
theorem handsOf_ok : ∀ {l : List Hands}, (∀ e ∈ l, e.length ≠ 0) → handsOf (l.map dHs) = some l
  | [], _ => by simp [handsOf]
  | e :: l, h => by
    show handsOf (.tup (e.map dRow) :: l.map dHs) = _
    unfold handsOf
    rw [rowsOf_map]
    simp only [Option.bind_some]
    rw [if_neg (h e (List.mem_cons_self ..)), handsOf_ok fun x m => h x (List.mem_cons_of_mem _ m)]
    rfl
theorem due_len {hs : Hands} (H : HandsOk hs) : (dueM hs).length ≤ 120 := by
  rw [dueM_len]
  exact Nat.le_trans keysM_len (orders_len H.hi)
theorem kep_len2 {hs : Hands} (H : HandsOk hs) : (kepM hs).length ≤ 120 := by
  rw [kep_len H.hi]
  exact due_len H
theorem ends_in_ok {hs : Hands} (H : HandsOk hs) : G_ends_in [dHs hs] = some (.lst ((dueM hs).map dHs)) := by
  have hlo := H.lo
  have hl := kep_len2 H
  have e1 := lcE_all (t := .nm 1) (fi := lstE (callE 1 G_keepers_in (consE (vE 0) nilE))) (f := callE 2 G_end_by (consE (vE 0) (consE (vE 1) nilE))) (vs := [1]) (ρ := [some (dHs hs), none]) (kepM hs) D.dic (fun kv => [some (dHs hs), some (.dic kv)]) (fun kv => dHs (endM hs kv)) (lstE_eq ((callE_eq (cons1 rfl) rfl).trans (keepers_in_ok H))) (ocap (by omega)) fun kv mk => ⟨rfl, (callE_eq (cons2 rfl rfl) rfl).trans (end_by_ok H ((kep_mem H.hi).mp mk).1)⟩
  refine run_rt (ρ := [some (dHs hs), none]) (ret_eq ((bE_eq (cons1 e1)).trans ?_)) rfl
  have em : ((kepM hs).map fun kv => dHs (endM hs kv)) = ((kepM hs).map (endM hs)).map dHs := by
    rw [List.map_map]
    rfl
  rw [em]
  show (handsOf (((kepM hs).map (endM hs)).map dHs)).map _ = _
  rw [handsOf_ok fun e m => ?_]
  · rw [← due_sort H.hi]
    rfl
  · obtain ⟨kv, _, rfl⟩ := List.mem_map.mp m
    rw [len_end]
    omega
theorem need_ok {hs : Hands} (H : HandsOk hs) : G_need_hands [dHs hs] = some .non := by
  have h1 := H.lo
  have h2 := H.hi
  exact need_hands_ok (by omega) (by omega) H.ok
theorem ends_ok {hs : Hands} (H : HandsOk hs) : G_ends [dHs hs] = some (.lst ((dueM hs).map dHs)) :=
  run_rt (ρ := [some (dHs hs)]) (seq_nx (drop_eq ((callE_eq (cons1 rfl) rfl).trans (need_ok H))) (ret_eq ((callE_eq (cons1 rfl) rfl).trans (ends_in_ok H)))) rfl
theorem count_ok {hs : Hands} (H : HandsOk hs) : G_count_ends [dHs hs] = some (.int ((dueM hs).length : Nat)) := by
  rw [← kep_len H.hi]
  exact run_rt (ρ := [some (dHs hs)]) (seq_nx (drop_eq ((callE_eq (cons1 rfl) rfl).trans (need_ok H))) (ret_eq ((bE_eq (cons1 ((callE_eq (cons1 rfl) rfl).trans (keepers_in_ok H)))).trans (len_map D.dic (kepM hs))))) rfl
theorem due_ne {hs : Hands} (H : HandsOk hs) : 0 < (dueM hs).length := by
  cases h : ordersM hs.length with
  | nil => exact absurd h (orders_one hs)
  | cons o r =>
    have m : o ∈ ordersM hs.length := by rw [h]; exact List.mem_cons_self ..
    exact List.length_pos_of_mem (dueM_mem.mpr (keysM_mem.mpr ⟨o, m, rfl⟩))
theorem least_ok {hs : Hands} (H : HandsOk hs) : ∃ e, (dueM hs)[0]? = some e ∧ G_least_end [dHs hs] = some (dHs e) := by
  have hp := due_ne H
  refine ⟨_, List.getElem?_eq_getElem hp, ?_⟩
  exact run_rt (ρ := [some (dHs hs)]) (seq_nx (drop_eq ((callE_eq (cons1 rfl) rfl).trans (need_ok H))) (ret_eq ((o2_eq ((callE_eq (cons1 rfl) rfl).trans (ends_in_ok H)) rfl).trans (ix_of (l := .lst ((dueM hs).map dHs)) (i := 0) rfl (by rw [List.getElem?_map, List.getElem?_eq_getElem hp]; rfl))))) rfl
theorem great_ok {hs : Hands} (H : HandsOk hs) : ∃ e, (dueM hs)[(dueM hs).length - 1]? = some e ∧ G_greatest_end [dHs hs] = some (dHs e) := by
  have hp := due_ne H
  have hq : (dueM hs).length - 1 < (dueM hs).length := by omega
  refine ⟨_, List.getElem?_eq_getElem hq, ?_⟩
  exact run_rt (ρ := [some (dHs hs)]) (seq_nx (drop_eq ((callE_eq (cons1 rfl) rfl).trans (need_ok H))) (ret_eq ((o2_eq ((callE_eq (cons1 rfl) rfl).trans (ends_in_ok H)) rfl).trans (ix_last dHs (by rw [List.getLast?_eq_getElem?, List.getElem?_eq_getElem hq]))))) rfl
theorem can_keep_ok {hs : Hands} (H : HandsOk hs) {t : Int} (mt : t ∈ thingsM hs) : G_can_keep [dHs hs, .int t] = some (.tup ((usort ((dueM hs).map fun e => (holdM e t).headD 0)).map .int)) := by
  have hi := H.hi
  have hl := kep_len2 H
  rw [← keep_same H mt]
  have e1 := lcE_all (t := .nm 2) (fi := lstE (callE 1 G_keepers_in (consE (vE 0) nilE))) (f := o2 lookG (vE 2) (vE 1)) (vs := [2]) (ρ := [some (dHs hs), some (.int t), none]) (kepM hs) D.dic (fun kv => [some (dHs hs), some (.int t), some (.dic kv)]) (fun kv => .int ((kv.lookup t).getD 0)) (lstE_eq ((callE_eq (cons1 rfl) rfl).trans (keepers_in_ok H))) (ocap (by omega)) fun kv mk => ⟨rfl, ?_⟩
  · have em : ((kepM hs).map fun kv => D.int ((kv.lookup t).getD 0)) = ((kepM hs).map fun kv => (kv.lookup t).getD 0).map .int := by
      rw [List.map_map]
      rfl
    rw [em] at e1
    refine run_rt (ρ := [some (dHs hs), some (.int t), none]) (seq_nx (drop_eq ((callE_eq (cons1 rfl) rfl).trans (need_ok H))) (seq_nx (drop_eq ((callE_eq (cons2 rfl rfl) rfl).trans (need_thing_ok H mt))) (ret_eq ((bE_eq (cons1 (usortE_eq (us := peop hs) e1 (by rw [List.length_map]; omega) (fun k m => ?_) (by rw [peop_len]; omega)))).trans rfl)))) rfl
    obtain ⟨kv, mk, rfl⟩ := List.mem_map.mp m
    obtain ⟨k, h1, h2, _⟩ := ((kep_mem H.hi).mp mk).1.get mt
    rw [h1]
    exact holdM_peop h2
  · obtain ⟨k, h1, _, _⟩ := ((kep_mem H.hi).mp mk).1.get mt
    refine (o2_eq rfl rfl).trans ((look_some h1).trans ?_)
    rw [h1]
    rfl
end DL
end Part_PM6
section Part_PM7
set_option Elab.async false
set_option linter.all false
set_option maxRecDepth 100000
set_option maxHeartbeats 2000000
set_option autoImplicit false
namespace DL
open PySem L2
/-! ## _law_orders -/
theorem stepO_snoc (n : Nat) (fs : List (List Int)) (a : List Int) : stepO n (fs ++ [a]) = stepO n fs ++ (((List.range n).map fun i => ((i : Nat) : Int)).filter fun p => decide (p ∉ a)).map fun p => a ++ [p] := by
  unfold stepO
  rw [List.flatMap_append, List.flatMap_cons, List.flatMap_nil, List.append_nil]
theorem stepO_len (n : Nat) : ∀ fs : List (List Int), (stepO n fs).length ≤ n * fs.length
  | [] => Nat.le_refl _
  | a :: fs => by
    have ih := stepO_len n fs
    have h1 := List.length_filter_le (fun p => decide (p ∉ a)) ((List.range n).map fun i => ((i : Nat) : Int))
    rw [List.length_map, List.length_range] at h1
    have e : stepO n (a :: fs) = (((List.range n).map fun i => ((i : Nat) : Int)).filter fun p => decide (p ∉ a)).map (fun p => a ++ [p]) ++ stepO n fs := by
      unfold stepO
      rw [List.flatMap_cons]
    rw [e, List.length_append, List.length_map, List.length_cons, Nat.mul_succ]
    omega
theorem iterO_len (n : Nat) : ∀ k, (iterO n k).length ≤ n ^ k
  | 0 => Nat.le_refl _
  | k + 1 => by
    refine Nat.le_trans (stepO_len n (iterO n k)) ?_
    rw [Nat.pow_succ, Nat.mul_comm]
    exact Nat.mul_le_mul_right _ (iterO_len n k)
theorem pow_small {n k : Nat} (hn : n ≤ 5) (hk : k ≤ 5) : n ^ k ≤ 3125 :=
  Nat.le_trans (Nat.pow_le_pow_left hn k) (Nat.le_trans (Nat.pow_le_pow_right (by decide) hk) (by decide))
theorem law_orders_ok {n : Nat} (hn : n ≤ 5) : G__law_orders [.int ((n : Nat) : Int)] = some (.lst ((ordersM n).map dRow)) := by
  have hr : ∀ ρ : En, rg1E (consE (vE 0) nilE) (some (.int ((n : Nat) : Int)) :: ρ) = some ((List.range n).map fun i => D.int ((i : Nat) : Int)) := fun ρ => rg1_eq (cons1 rfl) (by omega)
  have key := loopF_inv2 (t := .nm 2) (F := (seqF (setF 3 (lstE' nilE))
    (seqF (forF (lstE (vE 1)) (.nm 4) (setF 3 (o2 catLG (vE 3) (lcE (rg1E (consE (vE 0) nilE)) (.nm 5) (asB (o2 (inG true) (vE 5) (vE 4))) (o2 catTG (vE 4) (tupE' (consE (vE 5) nilE))) [5]))))
    (setF 1 (vE 3))))) (fun i : Nat => D.int ((i : Nat) : Int)) (fun pre e => ∃ x2 x3 x4 : Option D, e = ⟨none, [some (.int ((n : Nat) : Int)), some (.lst ((iterO n pre.length).map dRow)), x2, x3, x4, none]⟩) (L := List.range n) (e := ⟨none, [some (.int ((n : Nat) : Int)), some (.lst [.tup []]), none, none, none, none]⟩) ⟨none, none, none, rfl⟩ ?_
  · obtain ⟨e2, k1, x2, x3, x4, rfl⟩ := key
    rw [List.length_range] at k1
    exact run_rt (ρ := [some (.int ((n : Nat) : Int)), none, none, none, none, none]) (seq_nx (set_eq (d := .lst [.tup []]) rfl) (seq_nx (for_eq (hr _) k1) (ret_eq rfl))) rfl
  · rintro pre i post e hL ⟨x2, x3, x4, rfl⟩
    have hpre : pre.length + 1 ≤ n := by
      have := congrArg List.length hL
      rw [List.length_range, List.length_append, List.length_cons] at this
      omega
    have hil : (iterO n pre.length).length ≤ 3125 := Nat.le_trans (iterO_len n _) (pow_small hn (by omega))
    have inner := loopF_inv2 (t := .nm 4) (F := setF 3 (o2 catLG (vE 3) (lcE (rg1E (consE (vE 0) nilE)) (.nm 5) (asB (o2 (inG true) (vE 5) (vE 4))) (o2 catTG (vE 4) (tupE' (consE (vE 5) nilE))) [5]))) dRow
      (fun fs e => ∃ x4 : Option D, e = ⟨none, [some (.int ((n : Nat) : Int)), some (.lst ((iterO n pre.length).map dRow)), some (.int ((i : Nat) : Int)), some (.lst ((stepO n fs).map dRow)), x4, none]⟩) (L := iterO n pre.length) (e := ⟨none, [some (.int ((n : Nat) : Int)), some (.lst ((iterO n pre.length).map dRow)), some (.int ((i : Nat) : Int)), some (.lst []), x4, none]⟩) ⟨x4, rfl⟩ ?_
    · obtain ⟨e2, k1, x4', rfl⟩ := inner
      refine ⟨_, _, rfl, seq_nx (set_eq (ρ := [some (.int ((n : Nat) : Int)), some (.lst ((iterO n pre.length).map dRow)), some (.int ((i : Nat) : Int)), x3, x4, none]) (d := .lst []) rfl) (seq_nx (for_eq rfl k1) (set_eq rfl)), some (.int ((i : Nat) : Int)), some (.lst ((stepO n (iterO n pre.length)).map dRow)), x4', ?_⟩
      rw [List.length_append]
      rfl
    · rintro fs a post2 e hF ⟨x4, rfl⟩
      have ma : a ∈ iterO n pre.length := by rw [hF]; simp
      have hal := ((iter_mem _ _).mp ma).1
      have hfs : fs.length ≤ 3125 := by
        have : fs.length ≤ (iterO n pre.length).length := by rw [hF, List.length_append]; omega
        omega
      have hsl := stepO_len n fs
      have hnl : n * fs.length ≤ 5 * 3125 := Nat.mul_le_mul hn hfs
      have e1 := lcE_eq (t := .nm 5) (fi := rg1E (consE (vE 0) nilE)) (c := asB (o2 (inG true) (vE 5) (vE 4))) (f := o2 catTG (vE 4) (tupE' (consE (vE 5) nilE))) (vs := [5]) (ρ := [some (.int ((n : Nat) : Int)), some (.lst ((iterO n pre.length).map dRow)), some (.int ((i : Nat) : Int)), some (.lst ((stepO n fs).map dRow)), some (dRow a), none])
        ((List.range n).map fun i => ((i : Nat) : Int)) D.int (fun p => [some (.int ((n : Nat) : Int)), some (.lst ((iterO n pre.length).map dRow)), some (.int ((i : Nat) : Int)), some (.lst ((stepO n fs).map dRow)), some (dRow a), some (.int p)]) (fun p => decide (p ∉ a)) (fun p => dRow (a ++ [p])) ((hr _).trans (by rw [List.map_map]; rfl)) (fcap (n := 5) (by rw [List.length_map, List.length_range]; omega) (by omega)) fun p mp => ⟨rfl, asB_eq ((o2_eq rfl rfl).trans ((in_row true p a).trans (by rw [decide_not]; rfl))), fun _ => (o2_eq (x := dRow a) (y := .tup [.int p]) rfl rfl).trans ?_⟩
      · have hfl := List.length_filter_le (fun p => decide (p ∉ a)) ((List.range n).map fun i => ((i : Nat) : Int))
        rw [List.length_map, List.length_range] at hfl
        have hc : ((stepO n fs).map dRow).length + ((((List.range n).map fun i => ((i : Nat) : Int)).filter fun p => decide (p ∉ a)).map fun p => dRow (a ++ [p])).length ≤ cap := ocap (by rw [List.length_map, List.length_map]; omega)
        have cat : catLG (.lst ((stepO n fs).map dRow)) (.lst ((((List.range n).map fun i => ((i : Nat) : Int)).filter fun p => decide (p ∉ a)).map fun p => dRow (a ++ [p]))) = some (.lst ((stepO n fs).map dRow ++ (((List.range n).map fun i => ((i : Nat) : Int)).filter fun p => decide (p ∉ a)).map fun p => dRow (a ++ [p]))) := if_pos hc
        refine ⟨_, _, rfl, set_eq (ρ := [some (.int ((n : Nat) : Int)), some (.lst ((iterO n pre.length).map dRow)), some (.int ((i : Nat) : Int)), some (.lst ((stepO n fs).map dRow)), some (dRow a), none]) ((o2_eq rfl e1).trans cat), some (dRow a), ?_⟩
        rw [stepO_snoc, List.map_append, List.map_map]
        rfl
      · have hc : (a.map D.int).length + [D.int p].length ≤ cap := ocap (by rw [List.length_map, List.length_singleton]; omega)
        show (if (a.map D.int).length + [D.int p].length ≤ cap then some (D.tup (a.map D.int ++ [D.int p])) else none) = _
        rw [if_pos hc]
        unfold dRow
        rw [List.map_append]
        rfl
/-! ## an end is one -/
theorem rg2_eq {g : En → Option (List D)} {ρ : En} {i j : Int} (h : g ρ = some [.int i, .int j]) (h1 : 0 ≤ i) (h2 : i ≤ 100000) (h3 : 0 ≤ j) (h4 : j ≤ 100000) : rg2E g ρ = some (rngD i j) := by
  unfold rg2E
  rw [h]
  simp only [Option.bind_some]
  rw [if_pos (by omega)]
theorem pairs_in_ok {hs e : Hands} (H : HandsOk hs) (E : EndOk hs e) : G_pairs_in [dHs e] = some (.lst []) := by
  have hl : e.length ≤ 5 := (E.small H).len
  have key := loopF_inv2 (t := .nm 2) (F := forF (rg2E (consE (o2 addG (vE 2) (cE (.int 1))) (consE (bE lenG (consE (vE 0) nilE)) nilE))) (.nm 3) (ifF (asB (bE anyG (consE (lcE (tupE (o2 ixG (vE 0) (vE 2))) (.nm 4) tyE (o2 (inG false) (vE 4) (o2 ixG (vE 0) (vE 3))) [4]) nilE))) (appF 1 (tupE' (consE (vE 2) (consE (vE 3) nilE)))) nextF)) D.int
    (fun pre s => ∃ x2 x3 : Option D, s = ⟨some 1, [some (dHs e), some (.lst []), x2, x3, none]⟩) (L := peop e) (e := ⟨some 1, [some (dHs e), some (.lst []), none, none, none]⟩) ⟨none, none, rfl⟩ ?_
  · obtain ⟨e2, k1, x2, x3, rfl⟩ := key
    refine run_rt (ρ := [some (dHs e), none, none, none, none]) (seq_nx (own_eq (by simp)) (seq_nx (forO_eq (k := 1) (ρ := [some (dHs e), some (.lst []), none, none, none]) (?_ : _ = some ((peop e).map .int)) k1) (ret_eq rfl))) rfl
    exact (rg1_eq (n := e.length) (cons1 ((bE_eq (cons1 rfl)).trans (len_hs e))) (by omega)).trans (by rw [peop_enc])
  · rintro pre p post s hL ⟨x2, x3, rfl⟩
    have hp : p ∈ peop e := by rw [hL]; simp
    obtain ⟨hp0, hp1⟩ := peop_mem.mp hp
    have inner := loopF_inv2 (t := .nm 3) (F := ifF (asB (bE anyG (consE (lcE (tupE (o2 ixG (vE 0) (vE 2))) (.nm 4) tyE (o2 (inG false) (vE 4) (o2 ixG (vE 0) (vE 3))) [4]) nilE))) (appF 1 (tupE' (consE (vE 2) (consE (vE 3) nilE)))) nextF) (fun i : Nat => D.int ((p + 1) + ((i : Nat) : Int)))
      (fun ps s => ∃ x3 : Option D, s = ⟨some 1, [some (dHs e), some (.lst []), some (.int p), x3, none]⟩) (L := List.range ((e.length : Int) - (p + 1)).toNat) (e := ⟨some 1, [some (dHs e), some (.lst []), some (.int p), x3, none]⟩) ⟨x3, rfl⟩ ?_
    · obtain ⟨e2, k1, x3', rfl⟩ := inner
      refine ⟨_, _, rfl, forO_eq (k := 1) (ρ := [some (dHs e), some (.lst []), some (.int p), x3, none]) (rg2_eq (i := p + 1) (j := (e.length : Nat)) (cons2 (x := .int (p + 1)) (y := .int (e.length : Nat)) ((o2_eq (x := .int p) (y := .int 1) rfl rfl).trans (add_int p 1)) ((bE_eq (cons1 rfl)).trans (len_hs e))) (by omega) (by omega) (by omega) (by omega)) k1, some (.int p), x3', rfl⟩
    · rintro ps i post2 s hF ⟨x3, rfl⟩
      have mi : i ∈ List.range ((e.length : Int) - (p + 1)).toNat := by rw [hF]; simp
      rw [List.mem_range] at mi
      have hq : (p + 1) + ((i : Nat) : Int) ∈ peop e := peop_mem.mpr ⟨by omega, by omega⟩
      have e1 := lcE_all (t := .nm 4) (fi := tupE (o2 ixG (vE 0) (vE 2))) (f := o2 (inG false) (vE 4) (o2 ixG (vE 0) (vE 3))) (vs := [4]) (ρ := [some (dHs e), none, some (.int p), some (.int ((p + 1) + ((i : Nat) : Int))), none]) (hat e p) D.int (fun t => [some (dHs e), none, some (.int p), some (.int ((p + 1) + ((i : Nat) : Int))), some (.int t)]) (fun t => .bl (decide (t ∈ hat e ((p + 1) + ((i : Nat) : Int)))))
        (tupE_eq (ds := (hat e p).map .int) ((o2_eq rfl rfl).trans (ix_hat hp))) (ocap (by have := (E.small H).hl hp; omega)) fun t mt => ⟨rfl, (o2_eq rfl ((o2_eq rfl rfl).trans (ix_hat hq))).trans (in_row false t _)⟩
      refine ⟨_, _, rfl, ifO_f (k := 1) (ρ := [some (dHs e), some (.lst []), some (.int p), some (.int ((p + 1) + ((i : Nat) : Int))), none]) (asB_eq ((bE_eq (cons1 e1)).trans ((any_lst _ _).trans ?_))) rfl, some (.int ((p + 1) + ((i : Nat) : Int))), rfl⟩
      have : ((hat e p).any fun t => decide (t ∈ hat e ((p + 1) + ((i : Nat) : Int)))) = false := by
        rw [List.any_eq_false]
        intro t mt hd
        rw [decide_eq_true_iff] at hd
        have hp' := hp
        have hq' := hq
        rw [peop_of_len E.len] at hp' hq'
        have := E.one p hp' _ hq' t mt hd
        omega
      rw [this]
theorem need_end_ok {hs e : Hands} (H : HandsOk hs) (E : EndOk hs e) : G_need_end [dHs hs, dHs e] = some .non := by
  have e1 : G_end_in [dHs e] = some (.bl true) := by
    refine run_rt (ρ := [some (dHs e)]) (ret_eq ((o2_eq ((callE_eq (cons1 rfl) rfl).trans (pairs_in_ok H E)) (y := .lst []) rfl).trans ?_)) rfl
    exact (eq_lints [] []).trans (by rw [decide_eq_true rfl])
  exact run_nx (ρ := [some (dHs hs), some (dHs e)]) (seq_nx (drop_eq ((callE_eq (cons2 rfl rfl) rfl).trans (need_two_ok H E))) (if_f (not_eq (asB_eq ((callE_eq (cons1 rfl) rfl).trans e1))) rfl)) rfl
/-! ## the dict read off an end -/
theorem dput_new {kv : List (Int × Int)} {i j : Int} (h : i ∉ kv.map (·.1)) : dputI kv i j = kv ++ [(i, j)] := by
  unfold dputI
  rw [if_neg]
  rw [List.any_eq_true]
  rintro ⟨q, mq, hq⟩
  exact h (List.mem_map.mpr ⟨q, mq, of_decide_eq_true hq⟩)
theorem dcomp_row {z0 z1 z2 : Option D} (p : Int) : ∀ (h : List Int) (acc : List (Int × Int)), ((acc ++ h.map fun t => (t, p)).map (·.1)).Nodup → acc.length + h.length ≤ 100000 →
    dcompD (.nm 4) (vE 4) (vE 3) [z0, z1, z2, some (.int p), none] (h.map .int) acc = some (acc ++ h.map fun t => (t, p))
  | [], acc, _, _ => by
    rw [List.map_nil, List.map_nil, List.append_nil]
    rfl
  | t :: h, acc, nd, hc => by
    have hn : t ∉ acc.map (·.1) := fun m => by
      rw [List.map_append, List.nodup_append] at nd
      exact nd.2.2 t m t (List.mem_cons_self ..) rfl
    rw [List.length_cons] at hc
    have hc' : acc.length ≤ cap := ocap (by omega)
    have e : dcompD (.nm 4) (vE 4) (vE 3) [z0, z1, z2, some (.int p), none] ((t :: h).map .int) acc = if acc.length ≤ cap then dcompD (.nm 4) (vE 4) (vE 3) [z0, z1, z2, some (.int p), none] (h.map .int) (dputI acc t p) else none := rfl
    rw [e, if_pos hc', dput_new hn, dcomp_row p h (acc ++ [(t, p)]) (by rw [List.append_assoc]; exact nd) (by rw [List.length_append, List.length_singleton]; omega), List.append_assoc]
    rfl
theorem dcomp_all {z0 z2 : Option D} {e : Hands} : ∀ (ps : List Int) (acc : List (Int × Int)), (∀ p ∈ ps, p ∈ peop e) → ((acc ++ ps.flatMap fun p => (hat e p).map fun t => (t, p)).map (·.1)).Nodup → (acc ++ ps.flatMap fun p => (hat e p).map fun t => (t, p)).length ≤ 100000 →
    dcomp2D (.nm 3) (tupE (o2 ixG (vE 1) (vE 3))) (.nm 4) (vE 4) (vE 3) [4] [z0, some (dHs e), z2, none, none] (ps.map .int) acc = some (acc ++ ps.flatMap fun p => (hat e p).map fun t => (t, p))
  | [], acc, _, _, _ => by
    rw [List.map_nil, List.flatMap_nil, List.append_nil]
    rfl
  | p :: ps, acc, hp, nd, hc => by
    rw [List.flatMap_cons, ← List.append_assoc] at nd hc ⊢
    have nd1 : ((acc ++ (hat e p).map fun t => (t, p)).map (·.1)).Nodup := by
      rw [List.map_append, List.nodup_append] at nd
      exact nd.1
    have hc1 : acc.length + (hat e p).length ≤ 100000 := by
      rw [List.length_append, List.length_append, List.length_map] at hc
      omega
    have e1 : tupE (o2 ixG (vE 1) (vE 3)) [z0, some (dHs e), z2, some (.int p), none] = some ((hat e p).map .int) := tupE_eq ((o2_eq rfl rfl).trans (ix_hat (hp p (List.mem_cons_self ..))))
    have e2 : dcomp2D (.nm 3) (tupE (o2 ixG (vE 1) (vE 3))) (.nm 4) (vE 4) (vE 3) [4] [z0, some (dHs e), z2, none, none] ((p :: ps).map .int) acc = (tupE (o2 ixG (vE 1) (vE 3)) [z0, some (dHs e), z2, some (.int p), none]).bind fun es => (dcompD (.nm 4) (vE 4) (vE 3) [z0, some (dHs e), z2, some (.int p), none] es acc).bind fun acc' => dcomp2D (.nm 3) (tupE (o2 ixG (vE 1) (vE 3))) (.nm 4) (vE 4) (vE 3) [4] [z0, some (dHs e), z2, none, none] (ps.map .int) acc' := rfl
    rw [e2, e1]
    simp only [Option.bind_some]
    rw [dcomp_row p (hat e p) acc nd1 hc1]
    simp only [Option.bind_some]
    exact dcomp_all ps _ (fun q m => hp q (List.mem_cons_of_mem _ m)) nd hc
theorem kvE_nd {hs e : Hands} (E : EndOk hs e) : ((kvE e).map (·.1)).Nodup := by
  have em : (kvE e).map (·.1) = (peop e).flatMap (hat e) := by
    unfold kvE
    rw [List.map_flatMap]
    refine congrArg (fun f => (peop e).flatMap f) (funext fun p => ?_)
    rw [List.map_map]
    exact List.map_id _
  rw [em, List.Nodup, List.pairwise_flatMap]
  refine ⟨fun p hp => ?_, ?_⟩
  · rw [peop_of_len E.len] at hp
    exact lt_nodup (E.row p hp).1
  · refine List.Pairwise.imp_of_mem (fun {p q} mp mq z t h1 u h2 e' => ?_) (peop_lt e)
    rw [peop_of_len E.len] at mp mq
    subst e'
    have := E.one p mp q mq t h1 h2
    omega
theorem kvE_len {hs e : Hands} (H : HandsOk hs) (E : EndOk hs e) : (kvE e).length ≤ 6 := by
  have := nodup_le (us := [0, 1, 2, 3, 4, 5]) (kvE_nd E) fun k m => by
    obtain ⟨q, mq, rfl⟩ := List.mem_map.mp m
    obtain ⟨h1, h2⟩ := kvE_mem.mp mq
    have := (E.small H).nat _ (hat_mem h1) _ h2
    simp only [List.mem_cons, List.not_mem_nil, or_false]
    omega
  rw [List.length_map] at this
  exact this
theorem dict_eq {hs e : Hands} (H : HandsOk hs) (E : EndOk hs e) {z2 z3 z4 : Option D} : dc2E (rg1E (consE (bE lenG (consE (vE 0) nilE)) nilE)) (.nm 3) (tupE (o2 ixG (vE 1) (vE 3))) (.nm 4) (vE 4) (vE 3) [3, 4] [4] [some (dHs hs), some (dHs e), z2, z3, z4] = some (.dic (kvE e)) := by
  have hl := H.hi
  have e1 : rg1E (consE (bE lenG (consE (vE 0) nilE)) nilE) [some (dHs hs), some (dHs e), z2, z3, z4] = some ((peop e).map .int) := by
    rw [peop_of_len E.len]
    exact (rg1_eq (n := hs.length) (cons1 ((bE_eq (cons1 rfl)).trans (len_hs hs))) (by omega)).trans (by rw [peop_enc])
  unfold dc2E
  rw [e1]
  simp only [Option.bind_some]
  have e2 := dcomp_all (z0 := some (dHs hs)) (z2 := z2) (e := e) (peop e) [] (fun _ m => m) (by rw [List.nil_append]; exact kvE_nd E) (by
    rw [List.nil_append]
    exact Nat.le_trans (kvE_len H E) (by decide))
  show (dcomp2D (.nm 3) (tupE (o2 ixG (vE 1) (vE 3))) (.nm 4) (vE 4) (vE 3) [4] [some (dHs hs), some (dHs e), z2, none, none] ((peop e).map .int) []).map D.dic = _
  rw [e2]
  rfl
/-! ## fits_end and what leans on it -/
theorem fits_ok {hs e : Hands} (H : HandsOk hs) (E : EndOk hs e) : G_fits_end [dHs hs, dHs e] = some (.bl (fitM hs e)) := by
  have hl := H.hi
  have n1 : asB (o2 neG (callE 1 G_things_in (consE (vE 0) nilE)) (callE 1 G_things_in (consE (vE 1) nilE))) [some (dHs hs), some (dHs e), none, none, none] = some (!decide (thingsM hs = thingsM e)) :=
    asB_eq ((o2_eq ((callE_eq (cons1 rfl) rfl).trans (things_in_ok H.small)) ((callE_eq (cons1 rfl) rfl).trans (things_in_ok (E.small H)))).trans (ne_lints _ _))
  by_cases h1 : thingsM hs = thingsM e
  · have n2 : asB (bE anyG (consE (lc2E (rg1E (consE (bE lenG (consE (vE 0) nilE)) nilE)) (.nm 3) tyE (tupE (o2 ixG (vE 1) (vE 3))) (.nm 4) tyE (o2 (inG true) (vE 4) (o2 ixG (vE 0) (vE 3))) [3, 4] [4]) nilE)) [some (dHs hs), some (dHs e), none, none, none] = some (!((peop hs).all fun p => (hat e p).all fun t => decide (t ∈ hat hs p))) := by
      have e1 : rg1E (consE (bE lenG (consE (vE 0) nilE)) nilE) [some (dHs hs), some (dHs e), none, none, none] = some ((peop hs).map .int) :=
        (rg1_eq (n := hs.length) (cons1 ((bE_eq (cons1 rfl)).trans (len_hs hs))) (by omega)).trans (by rw [peop_enc])
      have e2 := lc2E_eq (t := .nm 3) (t1 := .nm 4) (c1 := tyE) (f := o2 (inG true) (vE 4) (o2 ixG (vE 0) (vE 3))) (fi1 := tupE (o2 ixG (vE 1) (vE 3))) (vs := [3, 4]) (vs1 := [4]) (peop hs) D.int (fun p => [some (dHs hs), some (dHs e), none, some (.int p), none]) (fun p => (hat e p).map .int) (fun p => (hat e p).map fun t => .bl (!decide (t ∈ hat hs p))) e1 ?_ fun p mp => ⟨rfl, ?_, ?_⟩
      · have em : ((peop hs).flatMap fun p => (hat e p).map fun t => D.bl (!decide (t ∈ hat hs p))) = ((peop hs).flatMap fun p => (hat e p).map fun t => !decide (t ∈ hat hs p)).map D.bl := by
          rw [List.map_flatMap]
          refine congrArg (fun f => (peop hs).flatMap f) (funext fun p => ?_)
          rw [List.map_map]
          rfl
        rw [em] at e2
        refine asB_eq ((bE_eq (cons1 e2)).trans ((any_map _).trans (congrArg (fun b => some (D.bl b)) ?_)))
        rw [Bool.eq_iff_iff, List.any_eq_true, Bool.not_eq_true', List.all_eq_false]
        constructor
        · rintro ⟨b, mb, hb⟩
          obtain ⟨p, hp, m⟩ := List.mem_flatMap.mp mb
          obtain ⟨t, mt, rfl⟩ := List.mem_map.mp m
          refine ⟨p, hp, fun h => ?_⟩
          have := List.all_eq_true.mp h t mt
          simp only [id, Bool.not_eq_true'] at hb
          rw [hb] at this
          cases this
        · rintro ⟨p, hp, hn⟩
          rw [Bool.not_eq_true, List.all_eq_false] at hn
          obtain ⟨t, mt, ht⟩ := hn
          refine ⟨!decide (t ∈ hat hs p), List.mem_flatMap.mpr ⟨p, hp, List.mem_map.mpr ⟨t, mt, rfl⟩⟩, ?_⟩
          rw [Bool.not_eq_true] at ht
          rw [ht]
          rfl
      · have : ∀ ps : List Int, (∀ p ∈ ps, p ∈ peop e) → (ps.flatMap fun p => (hat e p).map fun t => D.bl (!decide (t ∈ hat hs p))).length ≤ 6 * ps.length := by
          intro ps
          induction ps with
          | nil => exact fun _ => Nat.le_refl _
          | cons p ps ih =>
            intro h
            have a := ih fun q m => h q (List.mem_cons_of_mem _ m)
            have b := (E.small H).hl (h p (List.mem_cons_self ..))
            rw [List.flatMap_cons, List.length_append, List.length_map, List.length_cons]
            omega
        have := this (peop hs) fun p m => by rw [peop_of_len E.len]; exact m
        rw [peop_len] at this
        omega
      · exact tupE_eq ((o2_eq rfl rfl).trans (ix_hat (by rw [peop_of_len E.len]; exact mp)))
      · exact compD_all D.int (fun t => [some (dHs hs), some (dHs e), none, some (.int p), some (.int t)]) _ (hat e p) fun t mt => ⟨rfl, (o2_eq rfl ((o2_eq rfl rfl).trans (ix_hat mp))).trans (in_row true t _)⟩
    rw [h1, decide_eq_true rfl] at n1
    by_cases h2 : ((peop hs).all fun p => (hat e p).all fun t => decide (t ∈ hat hs p)) = true
    · rw [h2] at n2
      have ok : ∀ q ∈ kvE e, q.2 ∈ holdM hs q.1 := fun q m => by
        obtain ⟨a, b⟩ := kvE_mem.mp m
        rw [peop_of_len E.len] at a
        exact holdM_mem.mpr ⟨a, of_decide_eq_true (List.all_eq_true.mp (List.all_eq_true.mp h2 q.2 a) q.1 b)⟩
      have hk := kvE_len H E
      have er := ring_at (f := vE 0) (g := vE 2) (ρ := [some (dHs hs), some (dHs e), some (.dic (kvE e)), none, none]) hl (by omega) ok rfl rfl
      have ef : fitM hs e = !hasM (stepsM hs (kvE e)) := by
        unfold fitM
        rw [h1, decide_eq_true rfl, h2]
        rfl
      rw [ef]
      exact run_rt (ρ := [some (dHs hs), some (dHs e), none, none, none]) (seq_nx (if_f n1 rfl) (seq_nx (if_f n2 rfl) (seq_nx (set_eq (dict_eq H E)) (ret_eq (bl_eq (not_eq er)))))) rfl
    · rw [Bool.not_eq_true] at h2
      rw [h2] at n2
      have ef : fitM hs e = false := by
        unfold fitM
        rw [h2, Bool.and_false, Bool.false_and]
      rw [ef]
      exact run_rt (ρ := [some (dHs hs), some (dHs e), none, none, none]) (seq_nx (if_f n1 rfl) (seq_rt (if_t n2 (ret_eq rfl)))) rfl
  · rw [decide_eq_false h1] at n1
    have ef : fitM hs e = false := by
      unfold fitM
      rw [decide_eq_false h1]
      rfl
    rw [ef]
    exact run_rt (ρ := [some (dHs hs), some (dHs e), none, none, none]) (seq_rt (if_t n1 (ret_eq rfl))) rfl
theorem fits_at {hs e : Hands} (H : HandsOk hs) (E : EndOk hs e) {ρ : En} : asB (callE 2 G_fits_end (consE (vE 0) (consE (vE 1) nilE))) (some (dHs hs) :: some (dHs e) :: ρ) = some (decide (e ∈ keysM hs)) := by
  rw [← fit_iff H E]
  exact asB_eq ((callE_eq (cons2 rfl rfl) rfl).trans (fits_ok H E))
theorem can_end_ok {hs e : Hands} (H : HandsOk hs) (E : EndOk hs e) : G_can_end [dHs hs, dHs e] = some (.bl (decide (e ∈ keysM hs))) := by
  rw [← fit_iff H E]
  exact run_rt (ρ := [some (dHs hs), some (dHs e)]) (seq_nx (drop_eq ((callE_eq (cons2 rfl rfl) rfl).trans (need_end_ok H E))) (ret_eq ((callE_eq (cons2 rfl rfl) rfl).trans (fits_ok H E)))) rfl
theorem runX_rt {F : ES → Option Out} {ρ : En} {d : D} {m : Nat} {ds : List D} (h : F ⟨none, ρ⟩ = some (.rt d)) (hs : ρ = ds.map some ++ List.replicate (m - ds.length) none) : runX m F ds = some (some d) := by
  subst hs
  unfold runX
  rw [h]
  rfl
theorem runX_ex {F : ES → Option Out} {ρ : En} {m : Nat} {ds : List D} (h : F ⟨none, ρ⟩ = some .ex) (hs : ρ = ds.map some ++ List.replicate (m - ds.length) none) : runX m F ds = some none := by
  subst hs
  unfold runX
  rw [h]
  rfl
theorem keepers_ok {hs e : Hands} (H : HandsOk hs) (E : EndOk hs e) : G_keepers [dHs hs, dHs e] = some (if e ∈ keysM hs then some (.tup ((told1 e).map dPr)) else none) := by
  have hl : e.length ≤ 5 := (E.small H).len
  have htl := things_len (E.small H)
  by_cases hk : e ∈ keysM hs
  · rw [if_pos hk]
    have key := loopF_inv2 (t := .nm 3) (F := appF 2 (tupE' (consE (vE 3) (consE (o2 ixG (callE 2 G_holders_in (consE (vE 1) (consE (vE 3) nilE))) (cE (.int 0))) nilE)))) D.int
      (fun pre s => ∃ x3 : Option D, s = ⟨some 2, [some (dHs hs), some (dHs e), some (.lst ((pre.map fun t => (t, (holdM e t).headD 0)).map dPr)), x3]⟩) (L := thingsM e) (e := ⟨some 2, [some (dHs hs), some (dHs e), some (.lst []), none]⟩) ⟨none, rfl⟩ ?_
    · obtain ⟨e2, k1, x3, rfl⟩ := key
      exact runX_rt (ρ := [some (dHs hs), some (dHs e), none, none]) (seq_nx (drop_eq ((callE_eq (cons2 rfl rfl) rfl).trans (need_end_ok H E))) (seq_nx (if_f (not_eq (b := true) ((fits_at H E).trans (by rw [decide_eq_true hk]))) rfl) (seq_nx (own_eq (by simp)) (seq_nx (forO_eq (k := 2) (ρ := [some (dHs hs), some (dHs e), some (.lst []), none]) (lstE_eq ((callE_eq (cons1 rfl) rfl).trans (things_in_ok (E.small H)))) k1) (ret_eq ((bE_eq (cons1 rfl)).trans rfl)))))) rfl
    · rintro pre t post s hL ⟨x3, rfl⟩
      have mt : t ∈ thingsM e := by rw [hL]; simp
      have hpre : pre.length ≤ 6 := by
        have : pre.length ≤ (thingsM e).length := by rw [hL, List.length_append]; omega
        omega
      have e1 := (o2_eq (g := ixG) (fa := callE 2 G_holders_in (consE (vE 1) (consE (vE 3) nilE))) (fb := cE (.int 0)) (ρ := [some (dHs hs), some (dHs e), none, some (.int t)]) ((callE_eq (cons2 rfl rfl) rfl).trans (holders_in_ok e t (by omega))) rfl).trans (ix_head (hold_flat mt))
      refine ⟨_, _, rfl, app_eq (k := 2) (ρ := [some (dHs hs), some (dHs e), some (.lst ((pre.map fun t => (t, (holdM e t).headD 0)).map dPr)), some (.int t)]) (d := dPr (t, (holdM e t).headD 0)) rfl (tup_eq (cons2 rfl e1) (by simp)) (by rw [List.length_map, List.length_map]; omega), some (.int t), ?_⟩
      rw [List.map_append, List.map_append]
      rfl
  · rw [if_neg hk]
    exact runX_ex (ρ := [some (dHs hs), some (dHs e), none, none]) (seq_nx (drop_eq ((callE_eq (cons2 rfl rfl) rfl).trans (need_end_ok H E))) (seq_ex (if_t (not_eq (b := false) ((fits_at H E).trans (by rw [decide_eq_false hk]))) rfl))) rfl
theorem ahead_ok {hs e : Hands} (H : HandsOk hs) (E : EndOk hs e) : G_ahead [dHs hs, dHs e] = some (if e ∈ keysM hs then some (.tup ((usortP (stepsM hs (told1 e))).map dPr)) else none) := by
  have hl := H.hi
  by_cases hk : e ∈ keysM hs
  · rw [if_pos hk, ← steps_usort E]
    have hkl := kvE_len H E
    have hsl := steps_len hl (kvE e)
    have hin : ∀ q ∈ stepsM hs (kvE e), inB q := fun q m => by
      obtain ⟨r, mr, h1, h2, h3⟩ := mem_steps.mp m
      have a := peop_mem.mp (holdM_peop h1)
      have b := peop_mem.mp (kvE_mem.mp mr).1
      have := E.len
      unfold inB
      rw [h3]
      omega
    have et : usortTE (callE 2 G_steps_of (consE (vE 0) (consE (vE 2) nilE))) [some (dHs hs), some (dHs e), some (.dic (kvE e)), none, none] = some (.lst ((usortP (stepsM hs (kvE e))).map dPr)) := by
      have e0 : callE 2 G_steps_of (consE (vE 0) (consE (vE 2) nilE)) [some (dHs hs), some (dHs e), some (.dic (kvE e)), none, none] = some (.lst ((stepsM hs (kvE e)).map dPr)) := (callE_eq (cons2 rfl rfl) rfl).trans (steps_of_ok hl (by omega))
      unfold usortTE
      rw [e0]
      simp only [Option.bind_some]
      rw [prsOf_map hin]
      simp only [Option.bind_some]
      rw [if_pos (by omega)]
    exact runX_rt (ρ := [some (dHs hs), some (dHs e), none, none, none]) (seq_nx (drop_eq ((callE_eq (cons2 rfl rfl) rfl).trans (need_end_ok H E))) (seq_nx (if_f (not_eq (b := true) ((fits_at H E).trans (by rw [decide_eq_true hk]))) rfl) (seq_nx (set_eq (dict_eq H E)) (ret_eq ((bE_eq (cons1 et)).trans rfl))))) rfl
  · rw [if_neg hk]
    exact runX_ex (ρ := [some (dHs hs), some (dHs e), none, none, none]) (seq_nx (drop_eq ((callE_eq (cons2 rfl rfl) rfl).trans (need_end_ok H E))) (seq_ex (if_t (not_eq (b := false) ((fits_at H E).trans (by rw [decide_eq_false hk]))) rfl))) rfl
end DL
end Part_PM7
section Part_LFALL
set_option Elab.async false
set_option linter.all false
set_option maxRecDepth 100000
set_option maxHeartbeats 2000000
set_option autoImplicit false
namespace DL
open PySem L2
theorem LF_all (hs : Hands) (H : HandsOk hs) : LF hs where
  orders := law_orders_ok H.hi
  ocap := orders_len H.hi
  one := orders_one hs
  sm := H.small
  dsm := fun o m => H.small.done fun x mx => ((orders_mem.mp m).all x).mp mx
  dlen := len_done hs
  done := fun o m => law_done_ok H.small fun x mx => ((orders_mem.mp m).all x).mp mx
  ends := ends_ok H
  cnt := count_ok H
  least := least_ok H
  great := great_ok H
  endof := fun o m => end_of_ok H (orders_mem.mp m)
  hold := fun e me t mt => by
    obtain ⟨kv, mk, rfl⟩ := due_end H me
    have K := ((kep_mem H.hi).mp mk).1
    obtain ⟨k, h1, h2, h3⟩ := K.get mt
    have hp := holdM_peop h2
    rw [(end_ok H kv).hold hp ((end_lookup K hp).mpr h3)]
    exact List.cons_ne_nil _ _
  keep := fun t mt => can_keep_ok H mt
  osm := fun aw => (other_ok H aw).small H
  ohold := fun aw t mt => hold_flat mt
  can := fun e h => can_end_ok H (look_ok H h)
  kee := fun e h => keepers_ok H (look_ok H h)
  ahe := fun e h => ahead_ok H (look_ok H h)
end DL
end Part_LFALL
section Part_FIN
set_option Elab.async false
set_option linter.all false
set_option maxRecDepth 100000
namespace DL
open PySem PySem.Spec PyProof.Rows L2 Evl
section
variable {K : PySem.W.Frag} {h : Heap} {mg : Str → Option Value}
theorem defAt_mk {x : Str} {st : Stmt} {ps : List Str} {f : Addr} {oc : Value} {od an : Option Addr} {sl : Array (Option Value)} {kV dc pm cd ct : Value} (X : K.In h) (G : h.Ns mainGlobals mg)
    (b : ∀ (kV doc pm : Value) (an : Option Addr) (cdv ct : Value) (us : List Value), us.length = ps.length → bindArgs (PySem.W.fnOf x x (defArgs st) (defBody st) (defScope st) .none kV doc pm an cdv ct) ⟨us, []⟩ = pure (ps.zip us))
    (a : PySem.W.nsIn K mainGlobals x = some (some (.ref f))) (l : K.lookup f = some ⟨oc, od, .func (PySem.W.fnOf x x (defArgs st) (defBody st) (defScope st) .none kV dc pm an cd ct), sl⟩) (c : PySem.W.codeIn K cd x = true) (k : PySem.W.keepIn K (.ref f) = true) : DefAt K mg x st ps :=
  have F := fun_mk (st := st) l c k
  ⟨f, _, F, PySem.W.mg_of X G a, F.binds b⟩
theorem glob_mk {x : Str} {i : Int} {u : Value} (X : K.In h) (G : h.Ns mainGlobals mg) (a : PySem.W.nsIn K mainGlobals x = some (some u)) (r : RelV (.int i) u) : ∃ u, mg x = some u ∧ RelV (.int i) u := ⟨_, PySem.W.mg_of X G a, r⟩
theorem law_at {w : World} {fa C CH c f : Addr} {oc : Value} {od an : Option Addr} {sl : Array (Option Value)} {kV dc pm ct : Value} (hLF : ∀ hs, HandsOk hs → LF hs) (X : K.In h) (G : h.Ns mainGlobals mg) (hmg : mg "law" = some (.ref fa)) (tb : h.get? 359 = some (PySem.W.tabObj #[])) (T : Txt K mg) (TX : TxtX K mg C CH)
    (nT : K.lookup 359 = none) (hc : PySem.W.codeHdIn K c 359 = true) (aL : PySem.W.nsIn K mainGlobals "law" = some (some (.ref f)))
    (lL : K.lookup f = some ⟨oc, od, .func (PySem.W.fnOf "law" "law" (defArgs s_law) (defBody s_law) (defScope s_law) .none kV dc pm an (.ref c) ct), sl⟩) (cL : PySem.W.codeIn K (.ref c) "law" = true) : LamX.LawAtS PySem.Challenge.rw_lastholders_k04_whole_ends w K CX0 20 63 "_law_script" mg fa h := by
  have e := hmg.symm.trans (PySem.W.mg_of X G aL)
  cases e
  refine ⟨_, [(c, 359)], spLaw K 359, fun p m => ?_, fun p m => ?_, fun p m => ?_, fun s u => .of_eq rfl, fun H a ns hl _ hP hS => ⟨a, ns, rfl, hP (c, 359) (List.mem_singleton.mpr rfl), hS, hl, fun _ => rfl⟩, fun base _ _ TB => ok_law hLF T TX (TB (c, 359) (List.mem_singleton.mpr rfl)) lL cL⟩
  · rw [List.mem_singleton.mp m]
    exact tb
  · rw [List.mem_singleton.mp m]
    exact nT
  · rw [List.mem_singleton.mp m]
    exact PySem.W.codeHd_of_K X hc
theorem txtX_mk {C CH : Addr} (X : K.In h) (G : h.Ns mainGlobals mg) (aC : PySem.W.nsIn K mainGlobals "NotMade" = some (some (.ref C))) (aH : PySem.W.nsIn K mainGlobals "HoldError" = some (some (.ref CH)))
    (q : PySem.W.excIn K C [.type "ValueError", .type "Exception", .type "BaseException", .type "object"] "ValueError.__new__" = true) (kC : PySem.W.keepIn K (.ref C) = true) (exC : PySem.W.subIn K (.ref C) (.type "BaseException") = some true) (tyC : PySem.W.typeIn K (.ref C) = some (.type "type"))
    (hg : PySem.W.findIn K (.ref C) "__getattribute__" = some (some (.builtin "BaseException.__getattribute__"))) (hk : PySem.W.findIn K (.ref C) "__getattr__" = some none) (hd : PySem.W.hasDictIn K C = true) (ha : PySem.W.findIn K (.ref C) "__class__" = some (some (.builtin "object.__class__")))
    (hn : PySem.W.specialIn K (.builtin "object.__class__") "__get__" = some (some (.builtin "getset_descriptor.__get__"))) (ht : PySem.W.takesIn K (.builtin "object.__class__") = some true) (hm : PySem.W.mroIn K C (.type "object") = some true)
    (sH : PySem.W.subIn K (.ref CH) (.type "BaseException") = some true) (dH : PySem.W.hasDictIn K CH = true) (tH : PySem.W.typeIn K (.ref CH) = some (.type "type")) (sCH : PySem.W.subIn K (.ref C) (.ref CH) = some true) (kit : PySem.W.kitOne K (.ref C) (.ref C) = some true) : TxtX K mg C CH :=
  ⟨⟨⟨_, _, _, _, PySem.F.excBase_ValueError, q⟩, PySem.W.mg_of X G aC, kC, exC, tyC⟩, ⟨hg, hk, exC, hd, ha, hn, ht, hm⟩, PySem.W.mg_of X G aH, PySem.W.exm_ref sH dH tH sCH, kit⟩
end
end DL
open PySem PySem.W PyProof.Rows
set_option maxHeartbeats 0 in
theorem PySem.Challenge.cw_lastholders_k04_whole_ends_holds : PySem.Challenge.rw_lastholders_k04_whole_ends.Holds := by
  w_on; o_law; k_head; (case hw => w_witness2)
  k_fill
  refine LamX.walk_ofTs (l := PySem.Challenge.rw_lastholders_k04_whole_ends) (n := 63) (k := 20) (x := "_law_script") (CX := fun _ => L2.CX0) rfl (by decide) rfl ⟨rfl, by decide, by decide⟩ (fun w h Y => km_in_of Y) ?F (fun _ _ _ _ _ z => z)
  case F =>
    intro w mg fa h Y KX G hmg
    refine' DL.law_at DL.LF_all KX G hmg (km_tabs_of Y 359 (List.mem_singleton.mpr rfl)) ?T ?TX ?nT ?hcode ?aL ?lL ?cL
    case T =>
      refine' { z_len := ?z_len, z_any := ?z_any, z_all := ?z_all, z_sorted := ?z_sorted, z_tuple := ?z_tuple, z_list := ?z_list, z_int := ?z_int, z_bool := ?z_bool, z_str := ?z_str, z_set := ?z_set, z_range := ?z_range, z_enumerate := ?z_enumerate, z_isinstance := ?z_isinstance, g_people := ?g_people, g_things := ?g_things, d_is_integer := ?d_is_integer, d_is_in := ?d_is_in, d_is_list := ?d_is_list, d_is_hand := ?d_is_hand, d_need_hands := ?d_need_hands, d_need_two := ?d_need_two, d_need_thing := ?d_need_thing, d_things_in := ?d_things_in, d_holders_in := ?d_holders_in, d_spare_in := ?d_spare_in, d_pairs_in := ?d_pairs_in, d_end_in := ?d_end_in, d_call_in := ?d_call_in, d_story_in := ?d_story_in, d_has_ring := ?d_has_ring, d_steps_of := ?d_steps_of, d_keepers_in := ?d_keepers_in, d_end_by := ?d_end_by, d_ends_in := ?d_ends_in, d_ends := ?d_ends, d_count_ends := ?d_count_ends, d_need_end := ?d_need_end, d_fits_end := ?d_fits_end, d_can_end := ?d_can_end, d_keepers := ?d_keepers, d_need_order := ?d_need_order, d_end_of := ?d_end_of, d_least_end := ?d_least_end, d_greatest_end := ?d_greatest_end, d_can_keep := ?d_can_keep, d_ahead := ?d_ahead, d__law_taken := ?d__law_taken, d__law_pick := ?d__law_pick, d__law_alike := ?d__law_alike, d__law_hands := ?d__law_hands, d__law_holders := ?d__law_holders, d__law_things := ?d__law_things, d__law_call := ?d__law_call, d__law_done := ?d__law_done, d__law_orders := ?d__law_orders, d__law_told := ?d__law_told, d_law := ?d_law }
      case z_len => (refine' mg_none_of KX G ?_; k_is)
      case z_any => (refine' mg_none_of KX G ?_; k_is)
      case z_all => (refine' mg_none_of KX G ?_; k_is)
      case z_sorted => (refine' mg_none_of KX G ?_; k_is)
      case z_tuple => (refine' mg_none_of KX G ?_; k_is)
      case z_list => (refine' mg_none_of KX G ?_; k_is)
      case z_int => (refine' mg_none_of KX G ?_; k_is)
      case z_bool => (refine' mg_none_of KX G ?_; k_is)
      case z_str => (refine' mg_none_of KX G ?_; k_is)
      case z_set => (refine' mg_none_of KX G ?_; k_is)
      case z_range => (refine' mg_none_of KX G ?_; k_is)
      case z_enumerate => (refine' mg_none_of KX G ?_; k_is)
      case z_isinstance => (refine' mg_none_of KX G ?_; k_is)
      case g_people => (refine' DL.glob_mk KX G ?ga_people ?gr_people; (case ga_people => k_is); (case gr_people => exact ⟨_, rfl⟩))
      case g_things => (refine' DL.glob_mk KX G ?ga_things ?gr_things; (case ga_things => k_is); (case gr_things => exact ⟨_, rfl⟩))
      case d_is_integer =>
        refine' DL.defAt_mk KX G (fun _ _ _ _ _ _ us hl => match us, hl with | [_], _ => rfl) ?a_is_integer ?l_is_integer ?c_is_integer ?k_is_integer
        (case a_is_integer => k_is); (case l_is_integer => k_is); (case c_is_integer => k_is); (case k_is_integer => k_is)
      case d_is_in =>
        refine' DL.defAt_mk KX G (fun _ _ _ _ _ _ us hl => match us, hl with | [_, _, _], _ => rfl) ?a_is_in ?l_is_in ?c_is_in ?k_is_in
        (case a_is_in => k_is); (case l_is_in => k_is); (case c_is_in => k_is); (case k_is_in => k_is)
      case d_is_list =>
        refine' DL.defAt_mk KX G (fun _ _ _ _ _ _ us hl => match us, hl with | [_, _, _], _ => rfl) ?a_is_list ?l_is_list ?c_is_list ?k_is_list
        (case a_is_list => k_is); (case l_is_list => k_is); (case c_is_list => k_is); (case k_is_list => k_is)
      case d_is_hand =>
        refine' DL.defAt_mk KX G (fun _ _ _ _ _ _ us hl => match us, hl with | [_], _ => rfl) ?a_is_hand ?l_is_hand ?c_is_hand ?k_is_hand
        (case a_is_hand => k_is); (case l_is_hand => k_is); (case c_is_hand => k_is); (case k_is_hand => k_is)
      case d_need_hands =>
        refine' DL.defAt_mk KX G (fun _ _ _ _ _ _ us hl => match us, hl with | [_], _ => rfl) ?a_need_hands ?l_need_hands ?c_need_hands ?k_need_hands
        (case a_need_hands => k_is); (case l_need_hands => k_is); (case c_need_hands => k_is); (case k_need_hands => k_is)
      case d_need_two =>
        refine' DL.defAt_mk KX G (fun _ _ _ _ _ _ us hl => match us, hl with | [_, _], _ => rfl) ?a_need_two ?l_need_two ?c_need_two ?k_need_two
        (case a_need_two => k_is); (case l_need_two => k_is); (case c_need_two => k_is); (case k_need_two => k_is)
      case d_need_thing =>
        refine' DL.defAt_mk KX G (fun _ _ _ _ _ _ us hl => match us, hl with | [_, _], _ => rfl) ?a_need_thing ?l_need_thing ?c_need_thing ?k_need_thing
        (case a_need_thing => k_is); (case l_need_thing => k_is); (case c_need_thing => k_is); (case k_need_thing => k_is)
      case d_things_in =>
        refine' DL.defAt_mk KX G (fun _ _ _ _ _ _ us hl => match us, hl with | [_], _ => rfl) ?a_things_in ?l_things_in ?c_things_in ?k_things_in
        (case a_things_in => k_is); (case l_things_in => k_is); (case c_things_in => k_is); (case k_things_in => k_is)
      case d_holders_in =>
        refine' DL.defAt_mk KX G (fun _ _ _ _ _ _ us hl => match us, hl with | [_, _], _ => rfl) ?a_holders_in ?l_holders_in ?c_holders_in ?k_holders_in
        (case a_holders_in => k_is); (case l_holders_in => k_is); (case c_holders_in => k_is); (case k_holders_in => k_is)
      case d_spare_in =>
        refine' DL.defAt_mk KX G (fun _ _ _ _ _ _ us hl => match us, hl with | [_, _], _ => rfl) ?a_spare_in ?l_spare_in ?c_spare_in ?k_spare_in
        (case a_spare_in => k_is); (case l_spare_in => k_is); (case c_spare_in => k_is); (case k_spare_in => k_is)
      case d_pairs_in =>
        refine' DL.defAt_mk KX G (fun _ _ _ _ _ _ us hl => match us, hl with | [_], _ => rfl) ?a_pairs_in ?l_pairs_in ?c_pairs_in ?k_pairs_in
        (case a_pairs_in => k_is); (case l_pairs_in => k_is); (case c_pairs_in => k_is); (case k_pairs_in => k_is)
      case d_end_in =>
        refine' DL.defAt_mk KX G (fun _ _ _ _ _ _ us hl => match us, hl with | [_], _ => rfl) ?a_end_in ?l_end_in ?c_end_in ?k_end_in
        (case a_end_in => k_is); (case l_end_in => k_is); (case c_end_in => k_is); (case k_end_in => k_is)
      case d_call_in =>
        refine' DL.defAt_mk KX G (fun _ _ _ _ _ _ us hl => match us, hl with | [_, _], _ => rfl) ?a_call_in ?l_call_in ?c_call_in ?k_call_in
        (case a_call_in => k_is); (case l_call_in => k_is); (case c_call_in => k_is); (case k_call_in => k_is)
      case d_story_in =>
        refine' DL.defAt_mk KX G (fun _ _ _ _ _ _ us hl => match us, hl with | [_, _], _ => rfl) ?a_story_in ?l_story_in ?c_story_in ?k_story_in
        (case a_story_in => k_is); (case l_story_in => k_is); (case c_story_in => k_is); (case k_story_in => k_is)
      case d_has_ring =>
        refine' DL.defAt_mk KX G (fun _ _ _ _ _ _ us hl => match us, hl with | [_], _ => rfl) ?a_has_ring ?l_has_ring ?c_has_ring ?k_has_ring
        (case a_has_ring => k_is); (case l_has_ring => k_is); (case c_has_ring => k_is); (case k_has_ring => k_is)
      case d_steps_of =>
        refine' DL.defAt_mk KX G (fun _ _ _ _ _ _ us hl => match us, hl with | [_, _], _ => rfl) ?a_steps_of ?l_steps_of ?c_steps_of ?k_steps_of
        (case a_steps_of => k_is); (case l_steps_of => k_is); (case c_steps_of => k_is); (case k_steps_of => k_is)
      case d_keepers_in =>
        refine' DL.defAt_mk KX G (fun _ _ _ _ _ _ us hl => match us, hl with | [_], _ => rfl) ?a_keepers_in ?l_keepers_in ?c_keepers_in ?k_keepers_in
        (case a_keepers_in => k_is); (case l_keepers_in => k_is); (case c_keepers_in => k_is); (case k_keepers_in => k_is)
      case d_end_by =>
        refine' DL.defAt_mk KX G (fun _ _ _ _ _ _ us hl => match us, hl with | [_, _], _ => rfl) ?a_end_by ?l_end_by ?c_end_by ?k_end_by
        (case a_end_by => k_is); (case l_end_by => k_is); (case c_end_by => k_is); (case k_end_by => k_is)
      case d_ends_in =>
        refine' DL.defAt_mk KX G (fun _ _ _ _ _ _ us hl => match us, hl with | [_], _ => rfl) ?a_ends_in ?l_ends_in ?c_ends_in ?k_ends_in
        (case a_ends_in => k_is); (case l_ends_in => k_is); (case c_ends_in => k_is); (case k_ends_in => k_is)
      case d_ends =>
        refine' DL.defAt_mk KX G (fun _ _ _ _ _ _ us hl => match us, hl with | [_], _ => rfl) ?a_ends ?l_ends ?c_ends ?k_ends
        (case a_ends => k_is); (case l_ends => k_is); (case c_ends => k_is); (case k_ends => k_is)
      case d_count_ends =>
        refine' DL.defAt_mk KX G (fun _ _ _ _ _ _ us hl => match us, hl with | [_], _ => rfl) ?a_count_ends ?l_count_ends ?c_count_ends ?k_count_ends
        (case a_count_ends => k_is); (case l_count_ends => k_is); (case c_count_ends => k_is); (case k_count_ends => k_is)
      case d_need_end =>
        refine' DL.defAt_mk KX G (fun _ _ _ _ _ _ us hl => match us, hl with | [_, _], _ => rfl) ?a_need_end ?l_need_end ?c_need_end ?k_need_end
        (case a_need_end => k_is); (case l_need_end => k_is); (case c_need_end => k_is); (case k_need_end => k_is)
      case d_fits_end =>
        refine' DL.defAt_mk KX G (fun _ _ _ _ _ _ us hl => match us, hl with | [_, _], _ => rfl) ?a_fits_end ?l_fits_end ?c_fits_end ?k_fits_end
        (case a_fits_end => k_is); (case l_fits_end => k_is); (case c_fits_end => k_is); (case k_fits_end => k_is)
      case d_can_end =>
        refine' DL.defAt_mk KX G (fun _ _ _ _ _ _ us hl => match us, hl with | [_, _], _ => rfl) ?a_can_end ?l_can_end ?c_can_end ?k_can_end
        (case a_can_end => k_is); (case l_can_end => k_is); (case c_can_end => k_is); (case k_can_end => k_is)
      case d_keepers =>
        refine' DL.defAt_mk KX G (fun _ _ _ _ _ _ us hl => match us, hl with | [_, _], _ => rfl) ?a_keepers ?l_keepers ?c_keepers ?k_keepers
        (case a_keepers => k_is); (case l_keepers => k_is); (case c_keepers => k_is); (case k_keepers => k_is)
      case d_need_order =>
        refine' DL.defAt_mk KX G (fun _ _ _ _ _ _ us hl => match us, hl with | [_, _], _ => rfl) ?a_need_order ?l_need_order ?c_need_order ?k_need_order
        (case a_need_order => k_is); (case l_need_order => k_is); (case c_need_order => k_is); (case k_need_order => k_is)
      case d_end_of =>
        refine' DL.defAt_mk KX G (fun _ _ _ _ _ _ us hl => match us, hl with | [_, _], _ => rfl) ?a_end_of ?l_end_of ?c_end_of ?k_end_of
        (case a_end_of => k_is); (case l_end_of => k_is); (case c_end_of => k_is); (case k_end_of => k_is)
      case d_least_end =>
        refine' DL.defAt_mk KX G (fun _ _ _ _ _ _ us hl => match us, hl with | [_], _ => rfl) ?a_least_end ?l_least_end ?c_least_end ?k_least_end
        (case a_least_end => k_is); (case l_least_end => k_is); (case c_least_end => k_is); (case k_least_end => k_is)
      case d_greatest_end =>
        refine' DL.defAt_mk KX G (fun _ _ _ _ _ _ us hl => match us, hl with | [_], _ => rfl) ?a_greatest_end ?l_greatest_end ?c_greatest_end ?k_greatest_end
        (case a_greatest_end => k_is); (case l_greatest_end => k_is); (case c_greatest_end => k_is); (case k_greatest_end => k_is)
      case d_can_keep =>
        refine' DL.defAt_mk KX G (fun _ _ _ _ _ _ us hl => match us, hl with | [_, _], _ => rfl) ?a_can_keep ?l_can_keep ?c_can_keep ?k_can_keep
        (case a_can_keep => k_is); (case l_can_keep => k_is); (case c_can_keep => k_is); (case k_can_keep => k_is)
      case d_ahead =>
        refine' DL.defAt_mk KX G (fun _ _ _ _ _ _ us hl => match us, hl with | [_, _], _ => rfl) ?a_ahead ?l_ahead ?c_ahead ?k_ahead
        (case a_ahead => k_is); (case l_ahead => k_is); (case c_ahead => k_is); (case k_ahead => k_is)
      case d__law_taken =>
        refine' DL.defAt_mk KX G (fun _ _ _ _ _ _ us hl => match us, hl with | [_, _], _ => rfl) ?a__law_taken ?l__law_taken ?c__law_taken ?k__law_taken
        (case a__law_taken => k_is); (case l__law_taken => k_is); (case c__law_taken => k_is); (case k__law_taken => k_is)
      case d__law_pick =>
        refine' DL.defAt_mk KX G (fun _ _ _ _ _ _ us hl => match us, hl with | [_, _], _ => rfl) ?a__law_pick ?l__law_pick ?c__law_pick ?k__law_pick
        (case a__law_pick => k_is); (case l__law_pick => k_is); (case c__law_pick => k_is); (case k__law_pick => k_is)
      case d__law_alike =>
        refine' DL.defAt_mk KX G (fun _ _ _ _ _ _ us hl => match us, hl with | [_, _], _ => rfl) ?a__law_alike ?l__law_alike ?c__law_alike ?k__law_alike
        (case a__law_alike => k_is); (case l__law_alike => k_is); (case c__law_alike => k_is); (case k__law_alike => k_is)
      case d__law_hands =>
        refine' DL.defAt_mk KX G (fun _ _ _ _ _ _ us hl => match us, hl with | [_, _, _], _ => rfl) ?a__law_hands ?l__law_hands ?c__law_hands ?k__law_hands
        (case a__law_hands => k_is); (case l__law_hands => k_is); (case c__law_hands => k_is); (case k__law_hands => k_is)
      case d__law_holders =>
        refine' DL.defAt_mk KX G (fun _ _ _ _ _ _ us hl => match us, hl with | [_, _], _ => rfl) ?a__law_holders ?l__law_holders ?c__law_holders ?k__law_holders
        (case a__law_holders => k_is); (case l__law_holders => k_is); (case c__law_holders => k_is); (case k__law_holders => k_is)
      case d__law_things =>
        refine' DL.defAt_mk KX G (fun _ _ _ _ _ _ us hl => match us, hl with | [_], _ => rfl) ?a__law_things ?l__law_things ?c__law_things ?k__law_things
        (case a__law_things => k_is); (case l__law_things => k_is); (case c__law_things => k_is); (case k__law_things => k_is)
      case d__law_call =>
        refine' DL.defAt_mk KX G (fun _ _ _ _ _ _ us hl => match us, hl with | [_, _], _ => rfl) ?a__law_call ?l__law_call ?c__law_call ?k__law_call
        (case a__law_call => k_is); (case l__law_call => k_is); (case c__law_call => k_is); (case k__law_call => k_is)
      case d__law_done =>
        refine' DL.defAt_mk KX G (fun _ _ _ _ _ _ us hl => match us, hl with | [_, _], _ => rfl) ?a__law_done ?l__law_done ?c__law_done ?k__law_done
        (case a__law_done => k_is); (case l__law_done => k_is); (case c__law_done => k_is); (case k__law_done => k_is)
      case d__law_orders =>
        refine' DL.defAt_mk KX G (fun _ _ _ _ _ _ us hl => match us, hl with | [_], _ => rfl) ?a__law_orders ?l__law_orders ?c__law_orders ?k__law_orders
        (case a__law_orders => k_is); (case l__law_orders => k_is); (case c__law_orders => k_is); (case k__law_orders => k_is)
      case d__law_told =>
        refine' DL.defAt_mk KX G (fun _ _ _ _ _ _ us hl => match us, hl with | [_], _ => rfl) ?a__law_told ?l__law_told ?c__law_told ?k__law_told
        (case a__law_told => k_is); (case l__law_told => k_is); (case c__law_told => k_is); (case k__law_told => k_is)
      case d_law =>
        refine' DL.defAt_mk KX G (fun _ _ _ _ _ _ us hl => match us, hl with | [_], _ => rfl) ?a_law ?l_law ?c_law ?k_law
        (case a_law => k_is); (case l_law => k_is); (case c_law => k_is); (case k_law => k_is)
    case TX =>
      refine' DL.txtX_mk KX G ?x_aC ?x_aH ?x_q ?x_kC ?x_exC ?x_tyC ?x_hg ?x_hk ?x_hd ?x_ha ?x_hn ?x_ht ?x_hm ?x_sH ?x_dH ?x_tH ?x_sCH ?x_kit
      (case x_aC => first | k_is | kernel_rfl | rfl)
      (case x_aH => first | k_is | kernel_rfl | rfl)
      (case x_q => first | k_is | kernel_rfl | rfl)
      (case x_kC => first | k_is | kernel_rfl | rfl)
      (case x_exC => first | k_is | kernel_rfl | rfl)
      (case x_tyC => first | k_is | kernel_rfl | rfl)
      (case x_hg => first | k_is | kernel_rfl | rfl)
      (case x_hk => first | k_is | kernel_rfl | rfl)
      (case x_hd => first | k_is | kernel_rfl | rfl)
      (case x_ha => first | k_is | kernel_rfl | rfl)
      (case x_hn => first | k_is | kernel_rfl | rfl)
      (case x_ht => first | k_is | kernel_rfl | rfl)
      (case x_hm => first | k_is | kernel_rfl | rfl)
      (case x_sH => first | k_is | kernel_rfl | rfl)
      (case x_dH => first | k_is | kernel_rfl | rfl)
      (case x_tH => first | k_is | kernel_rfl | rfl)
      (case x_sCH => first | k_is | kernel_rfl | rfl)
      (case x_kit => first | k_is | kernel_rfl | rfl)
    (case aL => first | k_is | kernel_rfl)
    (case lL => first | k_is | kernel_rfl)
    (case cL => first | k_is | kernel_rfl)
    (case hcode => first | k_is | kernel_rfl)
    (case nT => first | k_is | kernel_rfl)
end Part_FIN
