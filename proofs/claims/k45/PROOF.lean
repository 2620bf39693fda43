import PyProof.Rows.All
import Wide.All
import OpenK.AllK
import Wide.FinOn
import PyProof.EqAt
import PyProof.EqKinds
import PyProof.TupleCall
import HandS.ForMost
import HandS.Conv
import HandS.Walk
import HandS.TupAny
import HandS.TupMul
import HandS.Zip
import HandS.Wide
import KE.GoesEnum
import HandS.Codes
import HandS.IsInst
import KE.KTupSum
import HandS.Words
import HandS.WordsExc
import HandS.ExcOwn
import HandS.Small
import HandS.RaiseMore
import HandS.TupSets
import HandS.Lambda
import HandS.ExcIs
import HandS.SetFor
import KE.KDflt
import HandS.Nested
import KE.KDictDisplayH
import HandS.Style
import PyProof.CallFns
import KE.KeyNested
import KE.SortData
import KE.DataEq
import PySem.Challenge.RW_clearhall_k45_whole_tables_of_steady_kin
import HandS.TupLe
import KE.KNestM
import HandS.EndTab
set_option Elab.async false
set_option linter.all false
set_option maxRecDepth 100000
set_option maxHeartbeats 2000000
/-! Data told by value over the abstract heap: what an expression's reading gives, as plain data. -/
namespace DL
open PySem PySem.Spec PyProof.Rows L2
abbrev Rel (α : Type) := Hp → V → α → Prop
def Sub (I H : Hp) : Prop := ∀ a o, I a = some o → H a = some o
theorem Sub.refl {I : Hp} : Sub I I := fun _ _ h => h
theorem Sub.trans {I J H : Hp} (a : Sub I J) (b : Sub J H) : Sub I H := fun p o h => b p o (a p o h)
theorem Sub.nn {I H : Hp} (s : Sub I H) {p : Addr} (h : H p = none) : I p = none := by
  cases e : I p with
  | none => rfl
  | some o => rw [s _ _ e] at h; cases h
theorem Sub.new {I H : Hp} (s : Sub I H) {p : Addr} {o : HO} (h : H p = none) : Sub I (upd H p o) := fun a u e => by
  by_cases ha : a = p
  · subst ha; rw [s.nn h] at e; cases e
  · rw [upd_ne ha]; exact s _ _ e
theorem Sub.both {I H : Hp} (s : Sub I H) (p : Addr) (o : HO) : Sub (upd I p o) (upd H p o) := fun a u e => by
  by_cases ha : a = p
  · subst ha; rw [upd_same] at e ⊢; exact e
  · rw [upd_ne ha] at e ⊢; exact s _ _ e
theorem Sub.in_ {I : Hp} {p : Addr} {o : HO} (h : I p = none) : Sub I (upd I p o) := Sub.refl.new h
class Mono {α : Type} (R : Rel α) : Prop where
  up : ∀ {I I' : Hp} {v : V} {x : α}, R I v x → Sub I I' → R I' v x
/-- the immutable part I of H grows to I' of H'; of H only what m tells may change -/
structure Ex (m : Addr → Prop) (I H I' H' : Hp) : Prop where
  si : Sub I' H'
  ii : Sub I I'
  kp : ∀ b o, ¬ m b → H b = some o → H' b = some o
  dm : ∀ b, H b ≠ none → H' b ≠ none
  fr : ∀ b, I' b ≠ none → I b ≠ none ∨ H b = none
def no : Addr → Prop := fun _ => False
abbrev Ex0 := Ex no
section
variable {m : Addr → Prop} {I H I1 H1 I2 H2 : Hp}
theorem Ex.refl (s : Sub I H) : Ex m I H I H := ⟨s, Sub.refl, fun _ _ _ h => h, fun _ h => h, fun _ h => .inl h⟩
theorem Ex.trans (a : Ex m I H I1 H1) (b : Ex m I1 H1 I2 H2) : Ex m I H I2 H2 :=
  ⟨b.si, a.ii.trans b.ii, fun p o n h => b.kp p o n (a.kp p o n h), fun p h => b.dm p (a.dm p h), fun p h => by
    rcases b.fr p h with h | h
    · exact a.fr p h
    · refine .inr ?_
      cases e : H p with
      | none => rfl
      | some o => exact absurd h (a.dm p (by rw [e]; simp))⟩
theorem Ex.of0 (a : Ex0 I H I1 H1) : Ex m I H I1 H1 := ⟨a.si, a.ii, fun b o _ h => a.kp b o (fun z => z) h, a.dm, a.fr⟩
/-- a new object, known from now on -/
theorem Ex.new (s : Sub I H) {p : Addr} {o : HO} (h : H p = none) : Ex m I H (upd I p o) (upd H p o) :=
  ⟨s.both p o, Sub.in_ (s.nn h), fun b u _ e => by rw [upd_ne (ne_of_none e h)]; exact e, fun b n => by
    by_cases hb : b = p
    · subst hb; rw [upd_same]; simp
    · rw [upd_ne hb]; exact n, fun b n => by
    by_cases hb : b = p
    · subst hb; exact .inr h
    · rw [upd_ne hb] at n; exact .inl n⟩
/-- a new object, one that may change -/
theorem Ex.cell (s : Sub I H) {p : Addr} {o : HO} (h : H p = none) : Ex m I H I (upd H p o) :=
  ⟨s.new h, Sub.refl, fun b u _ e => by rw [upd_ne (ne_of_none e h)]; exact e, fun b n => by
    by_cases hb : b = p
    · subst hb; rw [upd_same]; simp
    · rw [upd_ne hb]; exact n, fun b n => .inl n⟩
/-- a cell is written -/
theorem Ex.put (a : Ex m I H I1 H1) {p : Addr} {o : HO} (h : m p ∨ H p = none) (hI : I1 p = none) : Ex m I H I1 (upd H1 p o) :=
  ⟨fun b u e => by
    by_cases hb : b = p
    · subst hb; rw [hI] at e; cases e
    · rw [upd_ne hb]; exact a.si _ _ e, a.ii, fun b u n e => by
    by_cases hb : b = p
    · subst hb
      rcases h with h | h
      · exact absurd h n
      · rw [h] at e; cases e
    · rw [upd_ne hb]; exact a.kp _ _ n e, fun b n => by
    by_cases hb : b = p
    · subst hb; rw [upd_same]; simp
    · rw [upd_ne hb]; exact a.dm b n, a.fr⟩
/-- a cell stays as it is from now on -/
theorem Ex.seal (a : Ex m I H I1 H1) {p : Addr} {o : HO} (h : H p = none) (h1 : H1 p = some o) (hI : I1 p = none) : Ex m I H (upd I1 p o) H1 :=
  ⟨fun b u e => by
    by_cases hb : b = p
    · subst hb; rw [upd_same] at e; rw [h1]; exact e
    · rw [upd_ne hb] at e; exact a.si _ _ e, a.ii.trans (Sub.in_ hI), a.kp, a.dm, fun b n => by
    by_cases hb : b = p
    · subst hb; exact .inr h
    · rw [upd_ne hb] at n; exact a.fr b n⟩
/-- an address that stood, outside, stays outside -/
theorem Ex.out (a : Ex m I H I1 H1) {p : Addr} (h : I p = none) (h1 : H p ≠ none) : I1 p = none := by
  cases e : I1 p with
  | none => rfl
  | some o =>
    rcases a.fr p (by rw [e]; simp) with z | z
    · exact absurd h z
    · exact absurd z h1
end
/-- m: what may change; C: what holds of it; s: the places that C speaks of -/
structure Mode where
  m : Addr → Prop
  s : Addr → Prop
  C : Hp → Hp → Prop
  ms : ∀ b, m b → s b
  dm : ∀ {I H : Hp} {b : Addr}, C I H → s b → H b ≠ none
  st0 : ∀ {I H I' H' : Hp}, C I H → (∀ b o, s b → H b = some o → H' b = some o) → (∀ b, s b → I b = none → I' b = none) → C I' H'
theorem Mode.st (M : Mode) {I H I' H' : Hp} (e : Ex0 I H I' H') (c : M.C I H) : M.C I' H' :=
  M.st0 c (fun b o _ h => e.kp b o (fun z => z) h) fun b hb n => e.out n (M.dm c hb)
theorem Mode.put (M : Mode) {I H : Hp} {p : Addr} {o : HO} (c : M.C I H) (hp : ¬ M.s p) : M.C I (upd H p o) :=
  M.st0 c (fun b u hb h => by rw [upd_ne (show b ≠ p from fun z => hp (by rw [← z]; exact hb))]; exact h) fun _ _ n => n
theorem Mode.fresh (M : Mode) {I H : Hp} {p : Addr} (c : M.C I H) (hp : H p = none) : ¬ M.s p := fun z => M.dm c z hp
def M0 : Mode := ⟨no, no, fun _ _ => True, fun _ h => h, fun _ h => h.elim, fun _ _ _ => True.intro⟩
/-! ### relations of values to data -/
def dI : Rel Int := fun _ v i => v = .int i
def dB : Rel Bool := fun _ v b => v = .bl b
def dS : Rel Str := fun _ v z => v = .str z
def dN : Rel Unit := fun _ v _ => v = .non
section
variable {α β γ : Type}
def dT (R : Rel α) : Rel (List α) := fun I v xs => ∃ a vs, v = .ref a ∧ I a = some (.tup vs) ∧ Paired (R I) vs xs
def dL (R : Rel α) : Rel (List α) := fun I v xs => ∃ a vs, v = .ref a ∧ I a = some (.lst vs) ∧ Paired (R I) vs xs
def dP (R : Rel α) (S : Rel β) : Rel (α × β) := fun I v p => ∃ a x y, v = .ref a ∧ I a = some (.tup [x, y]) ∧ R I x p.1 ∧ S I y p.2
def dO (R : Rel α) : Rel (Option α) := fun I v o => match o with
  | none => v = .non
  | some x => R I v x
instance : Mono dI := ⟨fun h _ => h⟩
instance : Mono dB := ⟨fun h _ => h⟩
instance : Mono dS := ⟨fun h _ => h⟩
instance : Mono dN := ⟨fun h _ => h⟩
theorem paired_up {R : Rel α} [Mono R] {I I' : Hp} {vs : List V} {xs : List α} (h : Paired (R I) vs xs) (s : Sub I I') : Paired (R I') vs xs := by
  induction h with
  | nil => exact .nil
  | cons a _ ih => exact .cons (Mono.up a s) ih
instance {R : Rel α} [Mono R] : Mono (dT R) := ⟨fun ⟨a, vs, e, h, p⟩ s => ⟨a, vs, e, s _ _ h, paired_up p s⟩⟩
instance {R : Rel α} [Mono R] : Mono (dL R) := ⟨fun ⟨a, vs, e, h, p⟩ s => ⟨a, vs, e, s _ _ h, paired_up p s⟩⟩
instance {R : Rel α} {S : Rel β} [Mono R] [Mono S] : Mono (dP R S) := ⟨fun ⟨a, x, y, e, h, p, q⟩ s => ⟨a, x, y, e, s _ _ h, Mono.up p s, Mono.up q s⟩⟩
instance {R : Rel α} [Mono R] : Mono (dO R) := ⟨fun {I I' v x} h s => by
  cases x with
  | none => exact h
  | some y => exact Mono.up (R := R) h s⟩
theorem paired_get {F : V → α → Prop} : ∀ {vs : List V} {xs : List α} {i : Nat} {v : V}, Paired F vs xs → vs[i]? = some v → ∃ x, xs[i]? = some x ∧ F v x
  | _, _, _, _, .nil, h => by simp at h
  | _, _, 0, v, .cons a _, h => ⟨_, rfl, by simp at h; rw [← h]; exact a⟩
  | _, _, i + 1, v, .cons _ t, h => by
    obtain ⟨x, h1, h2⟩ := paired_get (i := i) (v := v) t (by simpa using h)
    exact ⟨x, by simpa using h1, h2⟩
theorem paired_get' {F : V → α → Prop} : ∀ {vs : List V} {xs : List α} {i : Nat} {x : α}, Paired F vs xs → xs[i]? = some x → ∃ v, vs[i]? = some v ∧ F v x
  | _, _, _, _, .nil, h => by simp at h
  | _, _, 0, v, .cons a _, h => ⟨_, rfl, by simp at h; rw [← h]; exact a⟩
  | _, _, i + 1, v, .cons _ t, h => by
    obtain ⟨x, h1, h2⟩ := paired_get' (i := i) (x := v) t (by simpa using h)
    exact ⟨x, by simpa using h1, h2⟩
theorem paired_app {F : V → α → Prop} {vs ws : List V} {xs ys : List α} (a : Paired F vs xs) (b : Paired F ws ys) : Paired F (vs ++ ws) (xs ++ ys) := by
  induction a with
  | nil => exact b
  | cons h _ ih => exact .cons h ih
theorem paired_take {F : V → α → Prop} : ∀ {vs : List V} {xs : List α} (n : Nat), Paired F vs xs → Paired F (vs.take n) (xs.take n)
  | _, _, 0, _ => .nil
  | _, _, _ + 1, .nil => .nil
  | _, _, n + 1, .cons h t => .cons h (paired_take n t)
theorem paired_drop {F : V → α → Prop} : ∀ {vs : List V} {xs : List α} (n : Nat), Paired F vs xs → Paired F (vs.drop n) (xs.drop n)
  | _, _, 0, h => h
  | _, _, _ + 1, .nil => .nil
  | _, _, n + 1, .cons _ t => paired_drop n t
theorem paired_set {F : V → α → Prop} : ∀ {vs : List V} {xs : List α} (n : Nat) {v : V} {x : α}, Paired F vs xs → F v x → Paired F (vs.set n v) (xs.set n x)
  | _, _, _, _, _, .nil, _ => .nil
  | _, _, 0, _, _, .cons _ t, q => .cons q t
  | _, _, n + 1, _, _, .cons h t, q => .cons h (paired_set n t q)
theorem paired_ints {I : Hp} : ∀ {vs : List V} {xs : List Int}, Paired (dI I) vs xs → vs = xs.map V.int
  | _, _, .nil => rfl
  | _, _, .cons h t => by
    have h' : _ = V.int _ := h
    rw [h', paired_ints t]; rfl
theorem paired_bools {I : Hp} : ∀ {vs : List V} {xs : List Bool}, Paired (dB I) vs xs → vs = xs.map V.bl
  | _, _, .nil => rfl
  | _, _, .cons h t => by
    have h' : _ = V.bl _ := h
    rw [h', paired_bools t]; rfl
theorem ints_paired {I : Hp} : ∀ {xs : List Int}, Paired (dI I) (xs.map V.int) xs
  | [] => .nil
  | _ :: _ => .cons rfl ints_paired
theorem paired_rep {F : V → α → Prop} {vs : List V} {xs : List α} (h : Paired F vs xs) : ∀ n : Nat, Paired F (List.replicate n vs).flatten (List.replicate n xs).flatten
  | 0 => .nil
  | n + 1 => by
    rw [List.replicate_succ, List.replicate_succ, List.flatten_cons, List.flatten_cons]
    exact paired_app h (paired_rep h n)
end
/-! ### an expression that gives data -/
section
variable {α β γ : Type} {M : Mode} {σ : L2.St} {I H : Hp}
def D (M : Mode) (te : TE) (σ : L2.St) (I H : Hp) (R : Rel α) (x : α) : Prop :=
  ∀ I1 H1, Ex M.m I H I1 H1 → M.C I1 H1 → ∀ Q : VK, (∀ v I2 H2, Ex M.m I1 H1 I2 H2 → M.C I2 H2 → R I2 v x → Q v H2) → te σ H1 Q
/-- .. that gives some data of which P holds -/
def N (M : Mode) (te : TE) (σ : L2.St) (I H : Hp) (R : Rel α) (P : α → Prop) : Prop :=
  ∀ I1 H1, Ex M.m I H I1 H1 → M.C I1 H1 → ∀ Q : VK, (∀ v x I2 H2, Ex M.m I1 H1 I2 H2 → M.C I2 H2 → R I2 v x → P x → Q v H2) → te σ H1 Q
def DT (M : Mode) (tt : TT) (σ : L2.St) (I H : Hp) (b : Bool) : Prop :=
  ∀ I1 H1, Ex M.m I H I1 H1 → M.C I1 H1 → ∀ Q : Bool → Hp → Prop, (∀ I2 H2, Ex M.m I1 H1 I2 H2 → M.C I2 H2 → Q b H2) → tt σ H1 Q
def DA (M : Mode) (ta : TA) (σ : L2.St) (I H : Hp) (A : Hp → List V → α → Prop) (x : α) : Prop :=
  ∀ I1 H1, Ex M.m I H I1 H1 → M.C I1 H1 → ∀ Q : List V → Hp → Prop, (∀ vs I2 H2, Ex M.m I1 H1 I2 H2 → M.C I2 H2 → A I2 vs x → Q vs H2) → ta σ H1 Q
theorem D.use {te : TE} {R : Rel α} {x : α} (d : D M te σ I H R x) (s : Sub I H) (c : M.C I H) {Q : VK} (k : ∀ v I2 H2, Ex M.m I H I2 H2 → M.C I2 H2 → R I2 v x → Q v H2) : te σ H Q := d I H (Ex.refl s) c Q k
theorem D.n {te : TE} {R : Rel α} {x : α} (d : D M te σ I H R x) : N M te σ I H R (fun y => y = x) := fun I1 H1 e c Q k => d I1 H1 e c Q fun v I2 H2 e2 c2 r => k v x I2 H2 e2 c2 r rfl
theorem N.use {te : TE} {R : Rel α} {P : α → Prop} (d : N M te σ I H R P) (s : Sub I H) (c : M.C I H) {Q : VK} (k : ∀ v x I2 H2, Ex M.m I H I2 H2 → M.C I2 H2 → R I2 v x → P x → Q v H2) : te σ H Q := d I H (Ex.refl s) c Q k
theorem DT.use {tt : TT} {b : Bool} (d : DT M tt σ I H b) (s : Sub I H) (c : M.C I H) {Q : Bool → Hp → Prop} (k : ∀ I2 H2, Ex M.m I H I2 H2 → M.C I2 H2 → Q b H2) : tt σ H Q := d I H (Ex.refl s) c Q k
theorem D.at {te : TE} {R : Rel α} {x : α} (d : D M te σ I H R x) {I1 H1 : Hp} (e : Ex M.m I H I1 H1) : D M te σ I1 H1 R x := fun I2 H2 e2 c Q k => d I2 H2 (e.trans e2) c Q k
theorem D.eq {te : TE} {R : Rel α} {x y : α} (d : D M te σ I H R x) (h : x = y) : D M te σ I H R y := h ▸ d
theorem DT.eq {tt : TT} {x y : Bool} (d : DT M tt σ I H x) (h : x = y) : DT M tt σ I H y := h ▸ d
theorem DT.at {tt : TT} {b : Bool} (d : DT M tt σ I H b) {I1 H1 : Hp} (e : Ex M.m I H I1 H1) : DT M tt σ I1 H1 b := fun I2 H2 e2 c Q k => d I2 H2 (e.trans e2) c Q k
/-! names, constants -/
theorem e_var {R : Rel α} [Mono R] {i : Nat} {v : V} {x : α} (r : R I v x) (h : σ[i]? = some (some v) := by rfl) : D M (tVar i) σ I H R x := fun I1 H1 e c Q k => ⟨v, h, k v I1 H1 (Ex.refl e.si) c (Mono.up r e.ii)⟩
theorem e_val {R : Rel α} {v : V} {x : α} (r : ∀ I, R I v x) : D M (tC v) σ I H R x := fun I1 H1 e c Q k => k v I1 H1 (Ex.refl e.si) c (r I1)
theorem e_int {i : Int} : D M (tC (.int i)) σ I H dI i := e_val fun _ => rfl
theorem e_bl {b : Bool} : D M (tC (.bl b)) σ I H dB b := e_val fun _ => rfl
theorem e_str {z : Str} : D M (tC (.str z)) σ I H dS z := e_val fun _ => rfl
theorem e_non : D M (tC .non) σ I H dN () := e_val fun _ => rfl
theorem e_nonO {R : Rel α} : D M (tC .non) σ I H (dO R) none := e_val fun _ => rfl
theorem e_some {R : Rel α} {te : TE} {x : α} (d : D M te σ I H R x) : D M te σ I H (dO R) (some x) := fun I1 H1 e c Q k => d I1 H1 e c Q k
/-! operators -/
section
variable {ta tb : TE} {a b : Int}
theorem e_i2 {g : Int → Int → Int} (ha : D M ta σ I H dI a) (hb : D M tb σ I H dI b) : D M (tOp (L2.rI0 fun i j => .int (g i j)) ta tb) σ I H dI (g a b) := fun I1 H1 e c Q k =>
  ha I1 H1 e c _ fun v I2 H2 e2 c2 r => hb I2 H2 (e.trans e2) c2 _ fun w I3 H3 e3 c3 q => ⟨a, b, r, q, k _ I3 H3 (e2.trans e3) c3 rfl⟩
theorem e_b2 {g : Int → Int → Bool} (ha : D M ta σ I H dI a) (hb : D M tb σ I H dI b) : D M (tOp (L2.rI0 fun i j => .bl (g i j)) ta tb) σ I H dB (g a b) := fun I1 H1 e c Q k =>
  ha I1 H1 e c _ fun v I2 H2 e2 c2 r => hb I2 H2 (e.trans e2) c2 _ fun w I3 H3 e3 c3 q => ⟨a, b, r, q, k _ I3 H3 (e2.trans e3) c3 rfl⟩
theorem e_i2c {C : Int → Int → Prop} {g : Int → Int → Int} (ha : D M ta σ I H dI a) (hb : D M tb σ I H dI b) (hc : C a b) : D M (tOp (L2.rI C fun i j => .int (g i j)) ta tb) σ I H dI (g a b) := fun I1 H1 e c Q k =>
  ha I1 H1 e c _ fun v I2 H2 e2 c2 r => hb I2 H2 (e.trans e2) c2 _ fun w I3 H3 e3 c3 q => ⟨a, b, r, q, hc, k _ I3 H3 (e2.trans e3) c3 rfl⟩
theorem e_eqI (ha : D M ta σ I H dI a) (hb : D M tb σ I H dI b) : D M (tOp rEq ta tb) σ I H dB (decide (a = b)) := fun I1 H1 e c Q k =>
  ha I1 H1 e c _ fun v I2 H2 e2 c2 r => hb I2 H2 (e.trans e2) c2 _ fun w I3 H3 e3 c3 q => by
    have r' : v = V.int a := r
    have q' : w = V.int b := q
    subst r' q'
    refine ⟨rfl, k _ I3 H3 (e2.trans e3) c3 ?_⟩
    show V.bl _ = V.bl _
    congr 1
    exact decide_eq_decide.mpr ⟨fun h => V.int.inj h, fun h => h ▸ rfl⟩
theorem e_neI (ha : D M ta σ I H dI a) (hb : D M tb σ I H dI b) : D M (tOp rNe ta tb) σ I H dB (!decide (a = b)) := fun I1 H1 e c Q k =>
  ha I1 H1 e c _ fun v I2 H2 e2 c2 r => hb I2 H2 (e.trans e2) c2 _ fun w I3 H3 e3 c3 q => by
    have r' : v = V.int a := r
    have q' : w = V.int b := q
    subst r' q'
    refine ⟨rfl, k _ I3 H3 (e2.trans e3) c3 ?_⟩
    show V.bl _ = V.bl _
    congr 2
    exact decide_eq_decide.mpr ⟨fun h => V.int.inj h, fun h => h ▸ rfl⟩
theorem e_isN {R : Rel α} {x : Option α} (hR : ∀ I v y, R I v y → v ≠ .non) (ha : D M ta σ I H (dO R) x) : D M (tIsN ta) σ I H dB x.isNone := fun I1 H1 e c Q k =>
  ha I1 H1 e c _ fun v I2 H2 e2 c2 r => k _ I2 H2 e2 c2 (by
    cases x with
    | none => have r' : v = V.non := r; subst r'; rfl
    | some y => show V.bl _ = V.bl _; congr 1; exact decide_eq_false (hR _ _ _ r))
theorem e_notN {R : Rel α} {x : Option α} (hR : ∀ I v y, R I v y → v ≠ .non) (ha : D M ta σ I H (dO R) x) : D M (tNotN ta) σ I H dB x.isSome := fun I1 H1 e c Q k =>
  ha I1 H1 e c _ fun v I2 H2 e2 c2 r => k _ I2 H2 e2 c2 (by
    cases x with
    | none => have r' : v = V.non := r; subst r'; rfl
    | some y =>
      show V.bl _ = V.bl true
      rw [decide_eq_false (hR _ _ _ r)]; rfl)
end
section
variable {ta tb : TE} {a b : Bool}
theorem e_and (ha : D M ta σ I H dB a) (hb : a = true → D M tb σ I H dB b) : D M (tAndV ta tb) σ I H dB (a && b) := fun I1 H1 e c Q k =>
  ha I1 H1 e c _ fun v I2 H2 e2 c2 r => ⟨a, r, by
    cases a with
    | true => exact hb rfl I2 H2 (e.trans e2) c2 _ fun w I3 H3 e3 c3 q => k w I3 H3 (e2.trans e3) c3 q
    | false => exact k _ I2 H2 e2 c2 rfl⟩
theorem e_or (ha : D M ta σ I H dB a) (hb : a = false → D M tb σ I H dB b) : D M (tOrV ta tb) σ I H dB (a || b) := fun I1 H1 e c Q k =>
  ha I1 H1 e c _ fun v I2 H2 e2 c2 r => ⟨a, r, by
    cases a with
    | true => exact k _ I2 H2 e2 c2 rfl
    | false => exact hb rfl I2 H2 (e.trans e2) c2 _ fun w I3 H3 e3 c3 q => k w I3 H3 (e2.trans e3) c3 q⟩
theorem e_not (ha : D M ta σ I H dB a) : D M (tNotV ta) σ I H dB (!a) := fun I1 H1 e c Q k => ha I1 H1 e c _ fun v I2 H2 e2 c2 r => ⟨a, r, k _ I2 H2 e2 c2 rfl⟩
end
/-! tests -/
section
variable {ta tb : TT} {te : TE} {a b : Bool}
theorem c_val (h : D M te σ I H dB a) : DT M (tB te) σ I H a := fun I1 H1 e c Q k => h I1 H1 e c _ fun v I2 H2 e2 c2 r => ⟨a, r, k I2 H2 e2 c2⟩
theorem c_test (h : D M te σ I H dB a) : DT M (tTest te) σ I H a := fun I1 H1 e c Q k => h I1 H1 e c _ fun v I2 H2 e2 c2 r => ⟨a, r, k I2 H2 e2 c2⟩
theorem c_and (ha : DT M ta σ I H a) (hb : a = true → DT M tb σ I H b) : DT M (tAnd ta tb) σ I H (a && b) := fun I1 H1 e c Q k =>
  ha I1 H1 e c _ fun I2 H2 e2 c2 => by
    cases a with
    | true => exact hb rfl I2 H2 (e.trans e2) c2 _ fun I3 H3 e3 c3 => k I3 H3 (e2.trans e3) c3
    | false => exact k I2 H2 e2 c2
theorem c_or (ha : DT M ta σ I H a) (hb : a = false → DT M tb σ I H b) : DT M (tOr ta tb) σ I H (a || b) := fun I1 H1 e c Q k =>
  ha I1 H1 e c _ fun I2 H2 e2 c2 => by
    cases a with
    | true => exact k I2 H2 e2 c2
    | false => exact hb rfl I2 H2 (e.trans e2) c2 _ fun I3 H3 e3 c3 => k I3 H3 (e2.trans e3) c3
theorem c_not (ha : DT M ta σ I H a) : DT M (tNot ta) σ I H (!a) := fun I1 H1 e c Q k => ha I1 H1 e c _ fun I2 H2 e2 c2 => k I2 H2 e2 c2
theorem e_if {R : Rel α} {tx ty : TE} {x y : α} (ha : DT M ta σ I H a) (hx : a = true → D M tx σ I H R x) (hy : a = false → D M ty σ I H R y) : D M (tIf ta tx ty) σ I H R (if a = true then x else y) := fun I1 H1 e c Q k =>
  ha I1 H1 e c _ fun I2 H2 e2 c2 => by
    cases a with
    | true => exact hx rfl I2 H2 (e.trans e2) c2 _ fun w I3 H3 e3 c3 q => k w I3 H3 (e2.trans e3) c3 q
    | false => exact hy rfl I2 H2 (e.trans e2) c2 _ fun w I3 H3 e3 c3 q => k w I3 H3 (e2.trans e3) c3 q
theorem e_ifT {R : Rel α} {tx ty : TE} {x : α} (ha : DT M ta σ I H a) (h : a = true) (hx : D M tx σ I H R x) : D M (tIf ta tx ty) σ I H R x := fun I1 H1 e c Q k =>
  ha I1 H1 e c _ fun I2 H2 e2 c2 => by
    rw [if_pos h]
    exact hx I2 H2 (e.trans e2) c2 _ fun w I3 H3 e3 c3 q => k w I3 H3 (e2.trans e3) c3 q
theorem e_ifF {R : Rel α} {tx ty : TE} {x : α} (ha : DT M ta σ I H a) (h : a = false) (hx : D M ty σ I H R x) : D M (tIf ta tx ty) σ I H R x := fun I1 H1 e c Q k =>
  ha I1 H1 e c _ fun I2 H2 e2 c2 => by
    rw [if_neg (by rw [h]; simp)]
    exact hx I2 H2 (e.trans e2) c2 _ fun w I3 H3 e3 c3 q => k w I3 H3 (e2.trans e3) c3 q
end
/-! arguments, displays -/
def aNil : Hp → List V → Unit → Prop := fun _ vs _ => vs = []
def aCons (R : Rel α) (A : Hp → List V → β → Prop) : Hp → List V → α × β → Prop := fun I vs p => ∃ v r, vs = v :: r ∧ R I v p.1 ∧ A I r p.2
def aAll (R : Rel α) : Hp → List V → List α → Prop := fun I vs xs => Paired (R I) vs xs
theorem a_nil : DA M tNil σ I H aNil () := fun I1 H1 e c Q k => k [] I1 H1 (Ex.refl e.si) c rfl
theorem a_cons {R : Rel α} [Mono R] {A : Hp → List V → β → Prop} {te : TE} {ta : TA} {x : α} {y : β} (hx : D M te σ I H R x) (hy : DA M ta σ I H A y) : DA M (tCons te ta) σ I H (aCons R A) (x, y) := fun I1 H1 e c Q k =>
  hx I1 H1 e c _ fun v I2 H2 e2 c2 r => hy I2 H2 (e.trans e2) c2 _ fun vs I3 H3 e3 c3 q => k _ I3 H3 (e2.trans e3) c3 ⟨v, vs, rfl, Mono.up r e3.ii, q⟩
theorem l_nil {R : Rel α} : DA M tNil σ I H (aAll R) [] := fun I1 H1 e c Q k => k [] I1 H1 (Ex.refl e.si) c .nil
theorem l_cons {R : Rel α} [Mono R] {te : TE} {ta : TA} {x : α} {y : List α} (hx : D M te σ I H R x) (hy : DA M ta σ I H (aAll R) y) : DA M (tCons te ta) σ I H (aAll R) (x :: y) := fun I1 H1 e c Q k =>
  hx I1 H1 e c _ fun v I2 H2 e2 c2 r => hy I2 H2 (e.trans e2) c2 _ fun vs I3 H3 e3 c3 q => k _ I3 H3 (e2.trans e3) c3 (.cons (Mono.up r e3.ii) q)
theorem e_tup {R : Rel α} [Mono R] {ta : TA} {xs : List α} (h : DA M ta σ I H (aAll R) xs) (hz : xs.length ≤ sizeLine := by simp [sizeLine_eq]) : D M (tTup ta) σ I H (dT R) xs := fun I1 H1 e c Q k =>
  h I1 H1 e c _ fun vs I2 H2 e2 c2 r => ⟨by rw [Paired.length r]; exact hz, fun p hp =>
    have x := Ex.new (m := no) (o := .tup vs) e2.si hp
    k _ _ _ (e2.trans x.of0) (M.st x c2) ⟨p, vs, rfl, upd_same, paired_up r x.ii⟩⟩
theorem e_lst {R : Rel α} [Mono R] {ta : TA} {xs : List α} (h : DA M ta σ I H (aAll R) xs) (hz : xs.length ≤ sizeLine := by simp [sizeLine_eq]) : D M (tLst ta) σ I H (dL R) xs := fun I1 H1 e c Q k =>
  h I1 H1 e c _ fun vs I2 H2 e2 c2 r => ⟨by rw [Paired.length r]; exact hz, fun p hp =>
    have x := Ex.new (m := no) (o := .lst vs) e2.si hp
    k _ _ _ (e2.trans x.of0) (M.st x c2) ⟨p, vs, rfl, upd_same, paired_up r x.ii⟩⟩
theorem e_pair {R : Rel α} {S : Rel β} [Mono R] [Mono S] {ta tb : TE} {x : α} {y : β} (ha : D M ta σ I H R x) (hb : D M tb σ I H S y) : D M (tTup (tCons ta (tCons tb tNil))) σ I H (dP R S) (x, y) := fun I1 H1 e c Q k =>
  ha I1 H1 e c _ fun v I2 H2 e2 c2 r => hb I2 H2 (e.trans e2) c2 _ fun w I3 H3 e3 c3 q => ⟨(by show 2 ≤ sizeLine; decide), fun p hp =>
    have z := Ex.new (m := no) (o := .tup [v, w]) e3.si hp
    k _ _ _ ((e2.trans e3).trans z.of0) (M.st z c3) ⟨p, v, w, rfl, upd_same, Mono.up (Mono.up r e3.ii) z.ii, Mono.up q z.ii⟩⟩
/-! calls -/
theorem e_cb {r : List V → Hp → VK → Prop} {A : Hp → List V → β → Prop} {ta : TA} {y : β} {R : Rel α} {x : α} (h : DA M ta σ I H A y)
    (hr : ∀ vs I1 H1, Ex M.m I H I1 H1 → M.C I1 H1 → A I1 vs y → ∀ Q : VK, (∀ v I2 H2, Ex M.m I1 H1 I2 H2 → M.C I2 H2 → R I2 v x → Q v H2) → r vs H1 Q) : D M (tCB r ta) σ I H R x := fun I1 H1 e c Q k =>
  h I1 H1 e c _ fun vs I2 H2 e2 c2 q => hr vs I2 H2 (e.trans e2) c2 q Q fun v I3 H3 e3 c3 z => k v I3 H3 (e2.trans e3) c3 z
end
end DL

namespace DL
open PySem PySem.Spec PyProof.Rows L2 RZ
section
variable {α β γ : Type} {M : Mode} {σ : L2.St} {I H : Hp} {K : PySem.W.Frag}
theorem SqT.mk' {a : Addr} {vs : List V} (h : H a = some (.tup vs)) : SqT K H a vs := .inl (.inl h)
theorem SqL.mk' {a : Addr} {vs : List V} (h : H a = some (.lst vs)) : SqL K H a vs := .inl (.inl h)
/-! items, slices -/
theorem atI_pair {F : V → α → Prop} {vs : List V} {xs : List α} {i : Int} {x : α} (p : Paired F vs xs) (h : atI xs i = some x) : ∃ v, atI vs i = some v ∧ F v x := by
  unfold atI at h ⊢
  rw [Paired.length p]
  cases e : ixN xs.length i with
  | none => rw [e] at h; cases h
  | some j =>
    rw [e] at h
    obtain ⟨v, h1, h2⟩ := paired_get' (i := j) p h
    exact ⟨v, h1, h2⟩
theorem e_ixT {R : Rel α} [Mono R] {ta tb : TE} {xs : List α} {i : Int} {x : α} (ha : D M ta σ I H (dT R) xs) (hb : D M tb σ I H dI i) (hx : atI xs i = some x) : D M (tOp (rIxT K) ta tb) σ I H R x := fun I1 H1 e c Q k =>
  ha I1 H1 e c _ fun v I2 H2 e2 c2 ⟨a, vs, ev, h, p⟩ => hb I2 H2 (e.trans e2) c2 _ fun w I3 H3 e3 c3 q => by
    obtain ⟨y, h1, h2⟩ := atI_pair p hx
    exact ⟨a, vs, i, y, ev, q, SqT.mk' (e3.si _ _ (e3.ii _ _ h)), h1, k y I3 H3 (e2.trans e3) c3 (Mono.up h2 e3.ii)⟩
theorem e_ixL {R : Rel α} [Mono R] {ta tb : TE} {xs : List α} {i : Int} {x : α} (ha : D M ta σ I H (dL R) xs) (hb : D M tb σ I H dI i) (hx : atI xs i = some x) : D M (tOp (rIxL K) ta tb) σ I H R x := fun I1 H1 e c Q k =>
  ha I1 H1 e c _ fun v I2 H2 e2 c2 ⟨a, vs, ev, h, p⟩ => hb I2 H2 (e.trans e2) c2 _ fun w I3 H3 e3 c3 q => by
    obtain ⟨y, h1, h2⟩ := atI_pair p hx
    exact ⟨a, vs, i, y, ev, q, SqL.mk' (e3.si _ _ (e3.ii _ _ h)), h1, k y I3 H3 (e2.trans e3) c3 (Mono.up h2 e3.ii)⟩
/-- p[0], p[1] of a pair -/
theorem e_ix0 {R : Rel α} {S : Rel β} [Mono R] {ta : TE} {p : α × β} (ha : D M ta σ I H (dP R S) p) : D M (tOp (rIxT K) ta (tC (.int 0))) σ I H R p.1 := fun I1 H1 e c Q k =>
  ha I1 H1 e c _ fun v I2 H2 e2 c2 ⟨a, x, y, ev, h, hx, hy⟩ => ⟨a, [x, y], 0, x, ev, rfl, SqT.mk' (e2.si _ _ h), rfl, k x I2 H2 e2 c2 hx⟩
theorem e_ix1 {R : Rel α} {S : Rel β} [Mono S] {ta : TE} {p : α × β} (ha : D M ta σ I H (dP R S) p) : D M (tOp (rIxT K) ta (tC (.int 1))) σ I H S p.2 := fun I1 H1 e c Q k =>
  ha I1 H1 e c _ fun v I2 H2 e2 c2 ⟨a, x, y, ev, h, hx, hy⟩ => ⟨a, [x, y], 1, y, ev, rfl, SqT.mk' (e2.si _ _ h), rfl, k y I2 H2 e2 c2 hy⟩
/-- xs[lo:hi] -/
def cut (xs : List α) (lo hi : Option Int) : List α := (xs.drop (HT.sIx xs.length 0 lo)).take (HT.sIx xs.length xs.length hi - HT.sIx xs.length 0 lo)
theorem paired_cut {F : V → α → Prop} {vs : List V} {xs : List α} (p : Paired F vs xs) (lo hi : Option Int) : Paired F (cutV vs lo hi) (cut xs lo hi) := by
  unfold cutV cut
  rw [Paired.length p]
  exact paired_take _ (paired_drop _ p)
def DO (M : Mode) (to : TO) (σ : L2.St) (I H : Hp) (o : Option Int) : Prop :=
  ∀ I1 H1, Ex M.m I H I1 H1 → M.C I1 H1 → ∀ Q, (∀ I2 H2, Ex M.m I1 H1 I2 H2 → M.C I2 H2 → Q o H2) → to σ H1 Q
theorem o_none : DO M tNoPart σ I H none := fun I1 H1 e c Q k => k I1 H1 (Ex.refl e.si) c
theorem o_some {te : TE} {i : Int} (h : D M te σ I H dI i) : DO M (tPart te) σ I H (some i) := fun I1 H1 e c Q k => h I1 H1 e c _ fun v I2 H2 e2 c2 r => ⟨i, r, k I2 H2 e2 c2⟩
theorem cut_whole {xs : List α} {lo hi : Option Int} (h : HT.sIx xs.length 0 lo = 0 ∧ HT.sIx xs.length xs.length hi = xs.length) : cut xs lo hi = xs := by
  unfold cut
  rw [h.1, h.2, List.drop_zero, Nat.sub_zero, List.take_length]
theorem e_slT {R : Rel α} [Mono R] {ta : TE} {tl th : TO} {xs : List α} {lo hi : Option Int} (ha : D M ta σ I H (dT R) xs) (hl : DO M tl σ I H lo) (hh : DO M th σ I H hi) : D M (tSl (rSlA K) ta tl th) σ I H (dT R) (cut xs lo hi) := fun I1 H1 e c Q k =>
  ha I1 H1 e c _ fun v I2 H2 e2 c2 ⟨a, vs, ev, h, p⟩ => hl I2 H2 (e.trans e2) c2 _ fun I3 H3 e3 c3 => hh I3 H3 ((e.trans e2).trans e3) c3 _ fun I4 H4 e4 c4 => by
    have h4 : I4 a = some (.tup vs) := e4.ii _ _ (e3.ii _ _ h)
    have p4 := paired_up p (e3.ii.trans e4.ii)
    refine ⟨a, vs, ev, SqT.mk' (e4.si _ _ h4), fun w => ?_, fun w q hq => ?_⟩
    · rw [Paired.length p] at w
      refine k _ I4 H4 ((e2.trans e3).trans e4) c4 ⟨a, vs, rfl, h4, ?_⟩
      rw [cut_whole w]
      exact p4
    · have z := Ex.new (m := no) (o := .tup (cutV vs lo hi)) e4.si hq
      exact k _ _ _ (((e2.trans e3).trans e4).trans z.of0) (M.st z c4) ⟨q, _, rfl, upd_same, paired_up (paired_cut p4 lo hi) z.ii⟩
theorem e_slL {R : Rel α} [Mono R] {ta : TE} {tl th : TO} {xs : List α} {lo hi : Option Int} (ha : D M ta σ I H (dL R) xs) (hl : DO M tl σ I H lo) (hh : DO M th σ I H hi) : D M (tSl (rSlL K) ta tl th) σ I H (dL R) (cut xs lo hi) := fun I1 H1 e c Q k =>
  ha I1 H1 e c _ fun v I2 H2 e2 c2 ⟨a, vs, ev, h, p⟩ => hl I2 H2 (e.trans e2) c2 _ fun I3 H3 e3 c3 => hh I3 H3 ((e.trans e2).trans e3) c3 _ fun I4 H4 e4 c4 => by
    have h4 : I4 a = some (.lst vs) := e4.ii _ _ (e3.ii _ _ h)
    have p4 := paired_up p (e3.ii.trans e4.ii)
    refine ⟨a, vs, ev, SqL.mk' (e4.si _ _ h4), fun q hq => ?_⟩
    have z := Ex.new (m := no) (o := .lst (cutV vs lo hi)) e4.si hq
    exact k _ _ _ (((e2.trans e3).trans e4).trans z.of0) (M.st z c4) ⟨q, _, rfl, upd_same, paired_up (paired_cut p4 lo hi) z.ii⟩
/-! xs + ys, xs * n -/
theorem paired_nil_left {F : V → α → Prop} {xs : List α} (p : Paired F [] xs) : xs = [] := by cases p; rfl
theorem e_catT {R : Rel α} [Mono R] {ta tb : TE} {xs ys : List α} (ha : D M ta σ I H (dT R) xs) (hb : D M tb σ I H (dT R) ys) (hz : xs.length + ys.length ≤ sizeLine) : D M (tOp (rCatA K) ta tb) σ I H (dT R) (xs ++ ys) := fun I1 H1 e c Q k =>
  ha I1 H1 e c _ fun v I2 H2 e2 c2 ⟨a, vs, ev, h, p⟩ => hb I2 H2 (e.trans e2) c2 _ fun w I3 H3 e3 c3 ⟨b, ws, ew, h', p'⟩ => by
    have ha3 : I3 a = some (.tup vs) := e3.ii _ _ h
    have pa := paired_up p e3.ii
    refine ⟨a, b, vs, ws, ev, ew, SqT.mk' (e3.si _ _ ha3), SqT.mk' (e3.si _ _ h'), by rw [Paired.length p, Paired.length p']; exact hz, fun n => ?_, fun _ n => ?_, fun _ _ q hq => ?_⟩
    · subst n
      have n2 := paired_nil_left pa
      subst n2
      exact k _ I3 H3 (e2.trans e3) c3 ⟨b, ws, rfl, h', p'⟩
    · subst n
      have n2 := paired_nil_left p'
      subst n2
      rw [List.append_nil] at k
      exact k _ I3 H3 (e2.trans e3) c3 ⟨a, vs, rfl, ha3, pa⟩
    · have z := Ex.new (m := no) (o := .tup (vs ++ ws)) e3.si hq
      exact k _ _ _ ((e2.trans e3).trans z.of0) (M.st z c3) ⟨q, _, rfl, upd_same, paired_up (paired_app pa p') z.ii⟩
theorem e_catL {R : Rel α} [Mono R] {ta tb : TE} {xs ys : List α} (ha : D M ta σ I H (dL R) xs) (hb : D M tb σ I H (dL R) ys) (hz : xs.length + ys.length ≤ sizeLine) : D M (tOp rCat ta tb) σ I H (dL R) (xs ++ ys) := fun I1 H1 e c Q k =>
  ha I1 H1 e c _ fun v I2 H2 e2 c2 ⟨a, vs, ev, h, p⟩ => hb I2 H2 (e.trans e2) c2 _ fun w I3 H3 e3 c3 ⟨b, ws, ew, h', p'⟩ => by
    have ha3 : I3 a = some (.lst vs) := e3.ii _ _ h
    have pa := paired_up p e3.ii
    refine ⟨a, b, vs, ws, ev, ew, e3.si _ _ ha3, e3.si _ _ h', by rw [Paired.length p, Paired.length p']; exact hz, fun q hq => ?_⟩
    have z := Ex.new (m := no) (o := .lst (vs ++ ws)) e3.si hq
    exact k _ _ _ ((e2.trans e3).trans z.of0) (M.st z c3) ⟨q, _, rfl, upd_same, paired_up (paired_app pa p') z.ii⟩
theorem e_repL {R : Rel α} [Mono R] {ta tb : TE} {xs : List α} {n : Int} (ha : D M ta σ I H (dL R) xs) (hb : D M tb σ I H dI n) (h1 : -(2 ^ 63) ≤ n) (h2 : n < 2 ^ 63) (hz : xs.length * n.toNat ≤ sizeLine) :
    D M (tOp rRep ta tb) σ I H (dL R) (List.replicate n.toNat xs).flatten := fun I1 H1 e c Q k =>
  ha I1 H1 e c _ fun v I2 H2 e2 c2 ⟨a, vs, ev, h, p⟩ => hb I2 H2 (e.trans e2) c2 _ fun w I3 H3 e3 c3 q => by
    have ha3 : I3 a = some (.lst vs) := e3.ii _ _ h
    refine ⟨a, n, vs, ev, q, e3.si _ _ ha3, h1, h2, by rw [Paired.length p]; exact hz, fun q hq => ?_⟩
    have z := Ex.new (m := no) (o := .lst (List.replicate n.toNat vs).flatten) e3.si hq
    exact k _ _ _ ((e2.trans e3).trans z.of0) (M.st z c3) ⟨q, _, rfl, upd_same, paired_up (paired_rep (paired_up p e3.ii) _) z.ii⟩
/-! built-ins of data -/
theorem e_lenT {R : Rel α} {te : TE} {xs : List α} (h : D M te σ I H (dT R) xs) : D M (tCB (fun xs H Q => ∃ p ys, xs = [.ref p] ∧ (SqL K H p ys ∨ SqT K H p ys) ∧ Q (.int ys.length) H) (tCons te tNil)) σ I H dI xs.length := fun I1 H1 e c Q k =>
  h I1 H1 e c _ fun v I2 H2 e2 c2 ⟨a, vs, ev, h, p⟩ => ⟨a, vs, by rw [ev], .inr (SqT.mk' (e2.si _ _ h)), k _ I2 H2 e2 c2 (by rw [Paired.length p]; rfl)⟩
theorem e_lenL {R : Rel α} {te : TE} {xs : List α} (h : D M te σ I H (dL R) xs) : D M (tCB (fun xs H Q => ∃ p ys, xs = [.ref p] ∧ (SqL K H p ys ∨ SqT K H p ys) ∧ Q (.int ys.length) H) (tCons te tNil)) σ I H dI xs.length := fun I1 H1 e c Q k =>
  h I1 H1 e c _ fun v I2 H2 e2 c2 ⟨a, vs, ev, h, p⟩ => ⟨a, vs, by rw [ev], .inl (SqL.mk' (e2.si _ _ h)), k _ I2 H2 e2 c2 (by rw [Paired.length p]; rfl)⟩
theorem e_sumL {te : TE} {xs : List Int} (h : D M te σ I H (dL dI) xs) : D M (tCB (rSum K) (tCons te tNil)) σ I H dI xs.sum := fun I1 H1 e c Q k =>
  h I1 H1 e c _ fun v I2 H2 e2 c2 ⟨a, vs, ev, h, p⟩ => ⟨a, xs, by rw [ev], SqL.mk' (by rw [← paired_ints p]; exact e2.si _ _ h), k _ I2 H2 e2 c2 rfl⟩
theorem e_anyL {te : TE} {xs : List Bool} (h : D M te σ I H (dL dB) xs) : D M (tCB (rAny K) (tCons te tNil)) σ I H dB (xs.any id) := fun I1 H1 e c Q k =>
  h I1 H1 e c _ fun v I2 H2 e2 c2 ⟨a, vs, ev, h, p⟩ => ⟨a, xs, by rw [ev], SqL.mk' (by rw [← paired_bools p]; exact e2.si _ _ h), k _ I2 H2 e2 c2 rfl⟩
theorem e_allL {te : TE} {xs : List Bool} (h : D M te σ I H (dL dB) xs) : D M (tCB (rAll K) (tCons te tNil)) σ I H dB (xs.all id) := fun I1 H1 e c Q k =>
  h I1 H1 e c _ fun v I2 H2 e2 c2 ⟨a, vs, ev, h, p⟩ => ⟨a, xs, by rw [ev], SqL.mk' (by rw [← paired_bools p]; exact e2.si _ _ h), k _ I2 H2 e2 c2 rfl⟩
theorem e_maxL {te : TE} {xs : List Int} {m : Int} (h : D M te σ I H (dL dI) xs) (hm : m ∈ xs) (hle : ∀ y ∈ xs, y ≤ m) : D M (tCB (rMax K) (tCons te tNil)) σ I H dI m := fun I1 H1 e c Q k =>
  h I1 H1 e c _ fun v I2 H2 e2 c2 ⟨a, vs, ev, h, p⟩ => ⟨a, xs, by rw [ev], SqL.mk' (by rw [← paired_ints p]; exact e2.si _ _ h), List.length_pos_of_mem hm, fun z h1 h2 => k _ I2 H2 e2 c2 (by
    have q : z = m := Int.le_antisymm (hle z h1) (h2 m hm)
    rw [q]; rfl)⟩
theorem e_min2 {ta tb : TE} {a b : Int} (ha : D M ta σ I H dI a) (hb : D M tb σ I H dI b) : D M (tCB (fun xs H Q => ∃ i j, xs = [.int i, .int j] ∧ Q (.int (if j < i then j else i)) H) (tCons ta (tCons tb tNil))) σ I H dI (if b < a then b else a) := fun I1 H1 e c Q k =>
  ha I1 H1 e c _ fun v I2 H2 e2 c2 r => hb I2 H2 (e.trans e2) c2 _ fun w I3 H3 e3 c3 q => ⟨a, b, by rw [show v = _ from r, show w = _ from q], k _ I3 H3 (e2.trans e3) c3 rfl⟩
theorem e_max2 {ta tb : TE} {a b : Int} (ha : D M ta σ I H dI a) (hb : D M tb σ I H dI b) : D M (tCB (fun xs H Q => ∃ i j, xs = [.int i, .int j] ∧ Q (.int (if j > i then j else i)) H) (tCons ta (tCons tb tNil))) σ I H dI (if b > a then b else a) := fun I1 H1 e c Q k =>
  ha I1 H1 e c _ fun v I2 H2 e2 c2 r => hb I2 H2 (e.trans e2) c2 _ fun w I3 H3 e3 c3 q => ⟨a, b, by rw [show v = _ from r, show w = _ from q], k _ I3 H3 (e2.trans e3) c3 rfl⟩
theorem e_absI {ta : TE} {a : Int} (ha : D M ta σ I H dI a) : D M (tCB (fun xs H Q => ∃ i, xs = [.int i] ∧ Q (.int (if i < 0 then -i else i)) H) (tCons ta tNil)) σ I H dI (if a < 0 then -a else a) := fun I1 H1 e c Q k =>
  ha I1 H1 e c _ fun v I2 H2 e2 c2 r => ⟨a, by rw [show v = _ from r], k _ I2 H2 e2 c2 rfl⟩
theorem e_intI {ta : TE} {a : Int} (ha : D M ta σ I H dI a) : D M (tCB (fun xs H Q => (∃ i, xs = [.int i] ∧ Q (.int i) H) ∨ ∃ k, xs = [.bl k] ∧ Q (.int (if k then 1 else 0)) H) (tCons ta tNil)) σ I H dI a := fun I1 H1 e c Q k =>
  ha I1 H1 e c _ fun v I2 H2 e2 c2 r => .inl ⟨a, by rw [show v = _ from r], k _ I2 H2 e2 c2 rfl⟩
theorem e_intB {ta : TE} {a : Bool} (ha : D M ta σ I H dB a) : D M (tCB (fun xs H Q => (∃ i, xs = [.int i] ∧ Q (.int i) H) ∨ ∃ k, xs = [.bl k] ∧ Q (.int (if k then 1 else 0)) H) (tCons ta tNil)) σ I H dI (if a then 1 else 0) := fun I1 H1 e c Q k =>
  ha I1 H1 e c _ fun v I2 H2 e2 c2 r => .inr ⟨a, by rw [show v = _ from r], k _ I2 H2 e2 c2 rfl⟩
theorem e_tupleL {R : Rel α} [Mono R] {ta : TE} {xs : List α} (ha : D M ta σ I H (dL R) xs) : D M (tThen ta (kTup K)) σ I H (dT R) xs := fun I1 H1 e c Q k =>
  ha I1 H1 e c _ fun v I2 H2 e2 c2 ⟨a, vs, ev, h, p⟩ => .inl ⟨a, vs, ev, SqL.mk' (e2.si _ _ h), fun q hq =>
    have z := Ex.new (m := no) (o := .tup vs) e2.si hq
    k _ _ _ (e2.trans z.of0) (M.st z c2) ⟨q, _, rfl, upd_same, paired_up p z.ii⟩⟩
theorem e_listT {R : Rel α} [Mono R] {ta : TE} {xs : List α} (ha : D M ta σ I H (dT R) xs) : D M (tCB (fun xs H Q => ∃ p ys, xs = [.ref p] ∧ (SqL K H p ys ∨ SqT K H p ys) ∧ ∀ l, H l = none → Q (.ref l) (upd H l (.lst ys))) (tCons ta tNil)) σ I H (dL R) xs := fun I1 H1 e c Q k =>
  ha I1 H1 e c _ fun v I2 H2 e2 c2 ⟨a, vs, ev, h, p⟩ => ⟨a, vs, by rw [ev], .inr (SqT.mk' (e2.si _ _ h)), fun q hq =>
    have z := Ex.new (m := no) (o := .lst vs) e2.si hq
    k _ _ _ (e2.trans z.of0) (M.st z c2) ⟨q, _, rfl, upd_same, paired_up p z.ii⟩⟩
/-! ### what is walked -/
def Sr (M : Mode) (wi : TI) (σ : L2.St) (I H : Hp) (S : Rel α) (xs : List α) : Prop :=
  ∀ I1 H1, Ex M.m I H I1 H1 → M.C I1 H1 → ∀ Rk : It → Hp → Prop,
    (∀ J I2 H2, Ex M.m I1 H1 I2 H2 → M.C I2 H2 → ∀ G Y, Walk J xs.length G Y → (∀ I3 H3, Sub I2 I3 → Sub I3 H3 → G H3) →
      (∀ i I3 H3 v H4, Sub I2 I3 → Sub I3 H3 → (h : i < xs.length) → Y i H3 v H4 → ∃ I4, Ex0 I3 H3 I4 H4 ∧ S I4 v xs[i]) → Rk J H2) → wi σ H1 Rk
theorem s_list {R : Rel α} [Mono R] {te : TE} {xs : List α} (h : D M te σ I H (dL R) xs) : Sr M (iList K te) σ I H R xs := fun I1 H1 e c Rk k =>
  h I1 H1 e c _ fun v I2 H2 e2 c2 ⟨a, vs, ev, h, p⟩ => ⟨a, ev, ⟨vs, SqL.mk' (e2.si _ _ h)⟩, k _ I2 H2 e2 c2 _ _ (by rw [← Paired.length p]; exact walk_list) (fun I3 H3 s s' => SqL.mk' (s' _ _ (s _ _ h))) fun i I3 H3 v H4 s s' hi y => by
    obtain ⟨rfl, hy⟩ := y
    obtain ⟨x, h1, h2⟩ := paired_get p hy
    rw [List.getElem?_eq_getElem hi] at h1
    cases h1
    exact ⟨I3, Ex.refl s', Mono.up h2 s⟩⟩
theorem s_tup {R : Rel α} [Mono R] {te : TE} {xs : List α} (h : D M te σ I H (dT R) xs) : Sr M (iTup K te) σ I H R xs := fun I1 H1 e c Rk k =>
  h I1 H1 e c _ fun v I2 H2 e2 c2 ⟨a, vs, ev, h, p⟩ => ⟨a, ev, ⟨vs, SqT.mk' (e2.si _ _ h)⟩, k _ I2 H2 e2 c2 _ _ (by rw [← Paired.length p]; exact walk_tup) (fun I3 H3 s s' => SqT.mk' (s' _ _ (s _ _ h))) fun i I3 H3 v H4 s s' hi y => by
    obtain ⟨rfl, hy⟩ := y
    obtain ⟨x, h1, h2⟩ := paired_get p hy
    rw [List.getElem?_eq_getElem hi] at h1
    cases h1
    exact ⟨I3, Ex.refl s', Mono.up h2 s⟩⟩
/-- 0, 1, .. below n -/
def rng (n : Int) : List Int := (List.range n.toNat).map fun (i : Nat) => (i : Int)
theorem rng_length (n : Int) : (rng n).length = n.toNat := by unfold rng; rw [List.length_map, List.length_range]
theorem rng_get {n : Int} {i : Nat} (h : i < (rng n).length) : (rng n)[i] = (i : Int) := by
  have h' : i < n.toNat := by rw [← rng_length]; exact h
  apply Option.some.inj
  rw [← List.getElem?_eq_getElem h]
  show ((List.range n.toNat).map fun (i : Nat) => (i : Int))[i]? = some (i : Int)
  rw [List.getElem?_map, List.getElem?_range h']
  rfl
theorem s_rng {te : TE} {n : Int} (h : D M te σ I H dI n) (h1 : -(2 ^ 62) ≤ n) (h2 : n < 2 ^ 62) : Sr M (iRng1 (tCons te tNil)) σ I H dI (rng n) := fun I1 H1 e c Rk k =>
  h I1 H1 e c _ fun v I2 H2 e2 c2 r => ⟨n, by rw [show v = _ from r], h1, h2, k _ I2 H2 e2 c2 _ _ (by rw [rng_length]; exact walk_range) (fun _ _ _ _ => True.intro) fun i I3 H3 v H4 s s' hi y => by
    obtain ⟨rfl, hy⟩ := y
    refine ⟨I3, Ex.refl s', ?_⟩
    rw [rng_get hi]
    have hy' : v = V.int (0 + (i : Int)) := hy
    rw [Int.zero_add] at hy'
    exact hy'⟩
theorem pair_new {R : Rel α} {S : Rel β} [Mono R] [Mono S] {I3 H3 : Hp} {T : Addr} {v w : V} {x : α} {y : β} (s : Sub I3 H3) (n : H3 T = none) (hx : R I3 v x) (hy : S I3 w y) :
    ∃ I4, Ex0 I3 H3 I4 (upd H3 T (.tup [v, w])) ∧ (dP R S) I4 (.ref T) (x, y) := by
  have z := Ex.new (m := no) (o := .tup [v, w]) s n
  exact ⟨_, z, T, v, w, rfl, upd_same, Mono.up hx z.ii, Mono.up hy z.ii⟩
theorem s_zipL {R : Rel α} {S : Rel β} [Mono R] [Mono S] {ta tb : TE} {xs : List α} {ys : List β} (ha : D M ta σ I H (dL R) xs) (hb : D M tb σ I H (dL S) ys) : Sr M (iZipA K (tCons ta (tCons tb tNil))) σ I H (dP R S) (xs.zip ys) := fun I1 H1 e c Rk k =>
  ha I1 H1 e c _ fun v I2 H2 e2 c2 ⟨a, vs, ev, h, p⟩ => hb I2 H2 (e.trans e2) c2 _ fun w I3 H3 e3 c3 ⟨b, ws, ew, h', p'⟩ =>
    ⟨a, b, vs, ws, by rw [ev, ew], .inl ⟨SqL.mk' (e3.si _ _ (e3.ii _ _ h)), SqL.mk' (e3.si _ _ h'), k _ I3 H3 (e2.trans e3) c3 _ _
      (walk_zip (by rw [List.length_zip, Paired.length p, Paired.length p'])) (fun I4 H4 s s' => ⟨SqL.mk' (s' _ _ (s _ _ (e3.ii _ _ h))), SqL.mk' (s' _ _ (s _ _ h'))⟩) fun i I4 H4 v H5 s s' hi y => by
        obtain ⟨T, x, z, rfl, n, rfl, f1, f2⟩ := y
        obtain ⟨x', g1, g2⟩ := paired_get p f1
        obtain ⟨y', g3, g4⟩ := paired_get p' f2
        have hz : (xs.zip ys)[i] = (x', y') := by
          have q : (xs.zip ys)[i]? = some (x', y') := by
            rw [List.getElem?_zip_eq_some]
            exact ⟨g1, g3⟩
          rw [List.getElem?_eq_getElem hi] at q
          exact Option.some.inj q
        rw [hz]
        exact pair_new s' n (Mono.up g2 (e3.ii.trans s)) (Mono.up g4 s)⟩⟩
theorem walk_zipT {a b : Addr} {xs ys : List V} {n : Nat} (hn : n = min xs.length ys.length) : Walk (ItzT K a b) n (fun H => SqT K H a xs ∧ SqT K H b ys) (YPair (fun i => xs[i]?) (fun i => ys[i]?)) := by
  subst hn
  refine ⟨fun i _ hi q => ?_, fun _ q => ⟨xs, ys, q.1, q.2, by omega⟩, fun i H v H' _ q y => ?_⟩
  · have h1 : i < xs.length := by omega
    have h2 : i < ys.length := by omega
    exact ⟨xs, ys, xs[i], ys[i], q.1, q.2, by simp [h1], by simp [h2]⟩
  · obtain ⟨T, x, z, h1, h2, h3, h4, h5⟩ := y
    exact ⟨T, x, z, h1, h2, h3, h4 xs q.1, h5 ys q.2⟩
theorem s_zipT {R : Rel α} {S : Rel β} [Mono R] [Mono S] {ta tb : TE} {xs : List α} {ys : List β} (ha : D M ta σ I H (dT R) xs) (hb : D M tb σ I H (dT S) ys) : Sr M (iZipA K (tCons ta (tCons tb tNil))) σ I H (dP R S) (xs.zip ys) := fun I1 H1 e c Rk k =>
  ha I1 H1 e c _ fun v I2 H2 e2 c2 ⟨a, vs, ev, h, p⟩ => hb I2 H2 (e.trans e2) c2 _ fun w I3 H3 e3 c3 ⟨b, ws, ew, h', p'⟩ =>
    ⟨a, b, vs, ws, by rw [ev, ew], .inr ⟨SqT.mk' (e3.si _ _ (e3.ii _ _ h)), SqT.mk' (e3.si _ _ h'), k _ I3 H3 (e2.trans e3) c3 _ _
      (walk_zipT (by rw [List.length_zip, Paired.length p, Paired.length p'])) (fun I4 H4 s s' => ⟨SqT.mk' (s' _ _ (s _ _ (e3.ii _ _ h))), SqT.mk' (s' _ _ (s _ _ h'))⟩) fun i I4 H4 v H5 s s' hi y => by
        obtain ⟨T, x, z, rfl, n, rfl, f1, f2⟩ := y
        obtain ⟨x', g1, g2⟩ := paired_get p f1
        obtain ⟨y', g3, g4⟩ := paired_get p' f2
        have hz : (xs.zip ys)[i] = (x', y') := by
          have q : (xs.zip ys)[i]? = some (x', y') := by
            rw [List.getElem?_zip_eq_some]
            exact ⟨g1, g3⟩
          rw [List.getElem?_eq_getElem hi] at q
          exact Option.some.inj q
        rw [hz]
        exact pair_new s' n (Mono.up g2 (e3.ii.trans s)) (Mono.up g4 s)⟩⟩
/-! ### targets -/
def Bind (g : TG) (S : Rel α) (Γ : L2.St → α → Hp → L2.St → Prop) : Prop := ∀ (σ : L2.St) (I H : Hp) (v : V) (x : α), Sub I H → S I v x → ∀ k : L2.St → Hp → Prop, (∀ σ2, Γ σ x I σ2 → k σ2 H) → g v σ H k
def GN (S : Rel α) (j : Nat) : L2.St → α → Hp → L2.St → Prop := fun σ x I σ2 => ∃ v, σ2 = σ.set j (some v) ∧ S I v x
def GP (R : Rel α) (S : Rel β) (i j : Nat) : L2.St → α × β → Hp → L2.St → Prop := fun σ p I σ2 => ∃ v w, σ2 = (σ.set i (some v)).set j (some w) ∧ R I v p.1 ∧ S I w p.2
theorem b_name {S : Rel α} {j : Nat} : Bind (gName j) S (GN S j) := fun σ I H v x s r k h => h _ ⟨v, rfl, r⟩
theorem b_pair {R : Rel α} {S : Rel β} {i j : Nat} : Bind (gTup K 2 (gCons (gName i) (gCons (gName j) gNil))) (dP R S) (GP R S i j) := fun σ I H v x s ⟨a, y, z, ev, h, r1, r2⟩ k f =>
  ⟨a, [y, z], ev, SqT.mk' (s _ _ h), rfl, y, [z], rfl, z, [], rfl, rfl, f _ ⟨y, z, rfl, r1, r2⟩⟩
theorem wipe_get (σ : L2.St) : ∀ (vs : List Nat) (i : Nat), (wipe σ vs)[i]? = if i ∈ vs ∧ i < σ.length then some none else σ[i]?
  | [], i => by simp [wipe]
  | v :: vs, i => by
    unfold wipe
    rw [List.getElem?_set, wipe_length, wipe_get σ vs i]
    by_cases h : v = i
    · subst h
      by_cases hl : v < σ.length
      · simp [hl]
      · simp [hl]
    · rw [if_neg h]
      have e : (i ∈ v :: vs) ↔ (i ∈ vs) := ⟨fun z => by
        rcases List.mem_cons.mp z with z | z
        · exact absurd z.symm h
        · exact z, List.mem_cons_of_mem _⟩
      by_cases hm : i ∈ vs ∧ i < σ.length
      · rw [if_pos hm, if_pos ⟨e.mpr hm.1, hm.2⟩]
      · rw [if_neg hm, if_neg fun z => hm ⟨e.mp z.1, z.2⟩]
theorem wipe_ext {σ τ : L2.St} {vs : List Nat} (hl : σ.length = τ.length) (h : ∀ i, i ∉ vs → σ[i]? = τ[i]?) : wipe σ vs = wipe τ vs := by
  apply List.ext_getElem?
  intro i
  rw [wipe_get, wipe_get, hl]
  by_cases hi : i ∈ vs
  · by_cases h2 : i < τ.length
    · simp [hi, h2]
    · rw [if_neg (fun z => h2 z.2), if_neg (fun z => h2 z.2), List.getElem?_eq_none (by omega), List.getElem?_eq_none (by omega)]
  · simp [hi, h i hi]
theorem wipe_wipe (σ : L2.St) (vs : List Nat) : wipe (wipe σ vs) vs = wipe σ vs := by
  refine wipe_ext (wipe_length _ _) fun i hi => ?_
  rw [wipe_get]
  simp [hi]
theorem wipe_set {σ : L2.St} {vs : List Nat} {j : Nat} {o : Option V} (h : j ∈ vs) : wipe (σ.set j o) vs = wipe σ vs :=
  wipe_ext (List.length_set ..) fun i hi => List.getElem?_set_ne (fun z => hi (by rw [← z]; exact h))
/-! ### comprehensions -/
theorem filter_step {p : α → Bool} {f : α → β} {xs : List α} {i : Nat} (hi : i < xs.length) : ((xs.take (i + 1)).filter p).map f = ((xs.take i).filter p).map f ++ (if p xs[i] = true then [f xs[i]] else []) := by
  rw [List.take_add_one, List.getElem?_eq_getElem hi, List.filter_append, List.map_append]
  congr 1
  show List.map f (List.filter p [xs[i]]) = _
  cases h : p xs[i] <;> simp [h]
theorem e_lc {wi : TI} {g : TG} {S : Rel α} {Γ : L2.St → α → Hp → L2.St → Prop} {xs : List α} {R : Rel β} [Mono R] {tt : TT} {te : TE} {vs : List Nat} {p : α → Bool} {f : α → β}
    (hs : Sr M wi σ I H S xs) (hg : Bind g S Γ) (hw : ∀ σ2 x J, Γ (wipe σ vs) x J σ2 → wipe σ2 vs = wipe σ vs) (hz : xs.length < sizeLine)
    (he : ∀ i (hi : i < xs.length), ∀ σ2 I1 H1, Ex M.m I H I1 H1 → Γ (wipe σ vs) xs[i] I1 σ2 → DT M tt σ2 I1 H1 (p xs[i]) ∧ (p xs[i] = true → D M te σ2 I1 H1 R (f xs[i]))) :
    D M (tLc wi g tt te vs) σ I H (dL R) ((xs.filter p).map f) := fun I1 H1 e c Q k => by
  refine hs I1 H1 e c _ fun J I2 H2 e2 c2 G Y wk hG hY => ?_
  intro D hD
  have nD := M.fresh c2 hD
  have iD : I2 D = none := e2.si.nn hD
  refine lc_it wk (fun i H' => ∃ I', Ex M.m I2 H2 I' H' ∧ I' D = none ∧ M.C I' H' ∧ ∃ acc, H' D = some (.lst acc) ∧ Paired (R I') acc (((xs.take i).filter p).map f))
    ⟨I2, Ex.cell e2.si hD, iD, M.put c2 nD, [], upd_same, by simp; exact .nil⟩ (fun i H' hi ⟨I', x, _⟩ => hG I' H' x.ii x.si) ?_ ?_
  · rintro i v H3 H4 hi ⟨I3, x3, n3, c3, acc, hacc, pacc⟩ hy
    obtain ⟨I4, x4, r4⟩ := hY i I3 H3 v H4 x3.ii x3.si hi hy
    have n4 : I4 D = none := x4.out n3 (by rw [hacc]; simp)
    have c4 := M.st x4 c3
    have a4 : H4 D = some (.lst acc) := x4.kp _ _ (fun z => z) hacc
    have ex : Ex M.m I H I4 H4 := ((e.trans e2).trans x3).trans x4.of0
    have lacc : acc.length ≤ xs.length := by
      rw [Paired.length pacc, List.length_map]
      exact Nat.le_trans (List.length_filter_le _ _) (by rw [List.length_take]; omega)
    refine hg _ I4 H4 v _ x4.si r4 _ fun σ2 hσ => ⟨hw _ _ _ hσ, ?_⟩
    obtain ⟨ht, hv⟩ := he i hi σ2 I4 H4 ex hσ
    refine ht.use x4.si c4 fun I5 H5 x5 c5 => ?_
    have hmD : ¬ M.m D := fun z => nD (M.ms _ z)
    have a5 : H5 D = some (.lst acc) := x5.kp _ _ hmD a4
    have n5 : I5 D = none := x5.out n4 (by rw [a4]; simp)
    cases hp : p xs[i] with
    | false =>
      refine ⟨I5, (x3.trans x4.of0).trans x5, n5, c5, acc, a5, ?_⟩
      rw [filter_step hi, hp]
      simp only [Bool.false_eq_true, if_false, List.append_nil]
      exact paired_up pacc (x4.ii.trans x5.ii)
    | true =>
      refine (hv hp) I5 H5 x5 c5 _ fun w I6 H6 x6 c6 r6 => ?_
      have a6 : H6 D = some (.lst acc) := x6.kp _ _ hmD a5
      have n6 : I6 D = none := x6.out n5 (by rw [a5]; simp)
      refine ⟨acc, a6, Nat.lt_of_le_of_lt lacc hz, I6, (((x3.trans x4.of0).trans x5).trans x6).put (.inr hD) n6, n6, M.put c6 nD, _, upd_same, ?_⟩
      rw [filter_step hi, hp]
      simp only [if_true]
      exact paired_app (paired_up pacc ((x4.ii.trans x5.ii).trans x6.ii)) (.cons r6 .nil)
  · rintro H3 ⟨I3, x3, n3, c3, acc, hacc, pacc⟩
    rw [List.take_length] at pacc
    have z := x3.seal hD hacc n3
    have c' : M.C (upd I3 D (.lst acc)) H3 := M.st0 c3 (fun b o _ h => h) fun b hb n => by
      rw [upd_ne (show b ≠ D from fun q => nD (by rw [← q]; exact hb))]; exact n
    exact k _ _ _ (e2.trans z) c' ⟨D, acc, rfl, upd_same, paired_up pacc (Sub.in_ n3)⟩
theorem filter_true (xs : List α) : xs.filter (fun _ => true) = xs := List.filter_eq_self.mpr fun _ _ => rfl
/-- [e for j in ..] -/
theorem e_lcN {wi : TI} {S : Rel α} {xs : List α} {R : Rel β} [Mono R] {te : TE} {vs : List Nat} {j : Nat} {f : α → β}
    (hs : Sr M wi σ I H S xs) (hz : xs.length < sizeLine) (he : ∀ i (hi : i < xs.length), ∀ v I1 H1, Ex M.m I H I1 H1 → S I1 v xs[i] → D M te ((wipe σ vs).set j (some v)) I1 H1 R (f xs[i])) (hj : j ∈ vs := by decide) :
    D M (tLc wi (gName j) tYes te vs) σ I H (dL R) (xs.map f) := by
  have h := e_lc (M := M) (σ := σ) (I := I) (H := H) (tt := tYes) (te := te) (vs := vs) (p := fun _ => true) (f := f) (R := R) hs (b_name (j := j)) (fun σ2 x J ⟨v, e, _⟩ => by rw [e, wipe_set hj, wipe_wipe]) hz
    fun i hi σ2 I1 H1 x ⟨v, e, r⟩ => ⟨fun I2 H2 e2 c2 Q k => k I2 H2 (Ex.refl e2.si) c2, fun _ => by rw [e]; exact he i hi v I1 H1 x r⟩
  rw [filter_true] at h
  exact h
/-- [e for j in .. if t] -/
theorem e_lcNF {wi : TI} {S : Rel α} {xs : List α} {R : Rel β} [Mono R] {tt : TT} {te : TE} {vs : List Nat} {j : Nat} {p : α → Bool} {f : α → β}
    (hs : Sr M wi σ I H S xs) (hz : xs.length < sizeLine) (ht : ∀ i (hi : i < xs.length), ∀ v I1 H1, Ex M.m I H I1 H1 → S I1 v xs[i] → DT M tt ((wipe σ vs).set j (some v)) I1 H1 (p xs[i]))
    (he : ∀ i (hi : i < xs.length), ∀ v I1 H1, Ex M.m I H I1 H1 → S I1 v xs[i] → p xs[i] = true → D M te ((wipe σ vs).set j (some v)) I1 H1 R (f xs[i])) (hj : j ∈ vs := by decide) :
    D M (tLc wi (gName j) tt te vs) σ I H (dL R) ((xs.filter p).map f) :=
  e_lc hs (b_name (j := j)) (fun σ2 x J ⟨v, e, _⟩ => by rw [e, wipe_set hj, wipe_wipe]) hz fun i hi σ2 I1 H1 x ⟨v, e, r⟩ => by
    rw [e]
    exact ⟨ht i hi v I1 H1 x r, he i hi v I1 H1 x r⟩
/-- [e for i, j in ..] -/
theorem e_lcP {wi : TI} {S : Rel α} {T : Rel γ} {xs : List (α × γ)} {R : Rel β} [Mono R] {te : TE} {vs : List Nat} {i j : Nat} {f : α × γ → β}
    (hs : Sr M wi σ I H (dP S T) xs) (hz : xs.length < sizeLine) (he : ∀ n (hn : n < xs.length), ∀ v w I1 H1, Ex M.m I H I1 H1 → S I1 v xs[n].1 → T I1 w xs[n].2 → D M te (((wipe σ vs).set i (some v)).set j (some w)) I1 H1 R (f xs[n])) (hi : i ∈ vs := by decide) (hj : j ∈ vs := by decide) :
    D M (tLc wi (gTup K 2 (gCons (gName i) (gCons (gName j) gNil))) tYes te vs) σ I H (dL R) (xs.map f) := by
  have h := e_lc (M := M) (σ := σ) (I := I) (H := H) (tt := tYes) (te := te) (vs := vs) (p := fun _ => true) (f := f) (R := R) hs (b_pair (K := K) (i := i) (j := j)) (fun σ2 x J ⟨v, w, e, _⟩ => by rw [e, wipe_set hj, wipe_set hi, wipe_wipe]) hz
    fun n hn σ2 I1 H1 x ⟨v, w, e, r1, r2⟩ => ⟨fun I2 H2 e2 c2 Q k => k I2 H2 (Ex.refl e2.si) c2, fun _ => by rw [e]; exact he n hn v w I1 H1 x r1 r2⟩
  rw [filter_true] at h
  exact h
theorem e_lcPF {wi : TI} {S : Rel α} {T : Rel γ} {xs : List (α × γ)} {R : Rel β} [Mono R] {tt : TT} {te : TE} {vs : List Nat} {i j : Nat} {p : α × γ → Bool} {f : α × γ → β}
    (hs : Sr M wi σ I H (dP S T) xs) (hz : xs.length < sizeLine) (ht : ∀ n (hn : n < xs.length), ∀ v w I1 H1, Ex M.m I H I1 H1 → S I1 v xs[n].1 → T I1 w xs[n].2 → DT M tt (((wipe σ vs).set i (some v)).set j (some w)) I1 H1 (p xs[n]))
    (he : ∀ n (hn : n < xs.length), ∀ v w I1 H1, Ex M.m I H I1 H1 → S I1 v xs[n].1 → T I1 w xs[n].2 → p xs[n] = true → D M te (((wipe σ vs).set i (some v)).set j (some w)) I1 H1 R (f xs[n])) (hi : i ∈ vs := by decide) (hj : j ∈ vs := by decide) :
    D M (tLc wi (gTup K 2 (gCons (gName i) (gCons (gName j) gNil))) tt te vs) σ I H (dL R) ((xs.filter p).map f) :=
  e_lc hs (b_pair (K := K) (i := i) (j := j)) (fun σ2 x J ⟨v, w, e, _⟩ => by rw [e, wipe_set hj, wipe_set hi, wipe_wipe]) hz fun n hn σ2 I1 H1 x ⟨v, w, e, r1, r2⟩ => by
    rw [e]
    exact ⟨ht n hn v w I1 H1 x r1 r2, he n hn v w I1 H1 x r1 r2⟩
/-! ### calls of defs -/
/-- the promise of a def that gives f of its arguments and leaves all as it was -/
def sp (A : Hp → List V → α → Prop) (pre : α → Prop) (R : Rel β) (f : α → β) : Sp := fun vs H Q _ => ∃ I x, Sub I H ∧ A I vs x ∧ pre x ∧ ∀ v I' H', Ex0 I H I' H' → R I' v (f x) → Q v H'
theorem e_call {A : Hp → List V → α → Prop} {pre : α → Prop} {R : Rel β} {f : α → β} {ta : TA} {x : α} {E : XK} (ha : DA M ta σ I H A x) (hp : pre x) : D M (tCall (sp A pre R f) [] E ta) σ I H R (f x) := fun I1 H1 e c Q k =>
  ha I1 H1 e c _ fun vs I2 H2 e2 c2 q => ⟨I2, x, e2.si, by rw [List.append_nil]; exact q, hp, fun v I' H' e3 r => k v I' H' (e2.trans e3.of0) (M.st e3 c2) r⟩
/-- the promise of a def that gives something of which P holds; hp: its first argument is the place that may change -/
def spN (Md : Addr → Mode) (A : Hp → List V → α → Prop) (pre : α → Prop) (R : Rel β) (P : α → β → Prop) : Sp := fun vs H Q _ => ∃ hp r I x, vs = .ref hp :: r ∧ Sub I H ∧ (Md hp).C I H ∧ A I r x ∧ pre x ∧ ∀ v y I' H', Ex (Md hp).m I H I' H' → (Md hp).C I' H' → R I' v y → P x y → Q v H'
theorem n_call {Md : Addr → Mode} {hp : Addr} {A : Hp → List V → α → Prop} {pre : α → Prop} {R : Rel β} {P : α → β → Prop} {ta : TA} {x : α} {E : XK} {i : Nat} (hi : σ[i]? = some (some (.ref hp))) (ha : DA (Md hp) ta σ I H A x) (hp' : pre x) :
    N (Md hp) (tCall (spN Md A pre R P) [] E (tCons (tVar i) ta)) σ I H R (P x) := fun I1 H1 e c Q k =>
  ⟨.ref hp, hi, ha I1 H1 e c _ fun vs I2 H2 e2 c2 q => ⟨hp, vs, I2, x, by rw [List.append_nil], e2.si, c2, q, hp', fun v y I' H' e3 c3 r p => k v y I' H' (e2.trans e3) c3 r p⟩⟩
/-! ### statements -/
theorem s_asg {te : TE} {i : Nat} {E : Ends} {R : Rel α} {x : α} (d : D M te σ I H R x) (s : Sub I H) (c : M.C I H) (k : ∀ v I1 H1, Ex M.m I H I1 H1 → M.C I1 H1 → R I1 v x → E.nx (σ.set i (some v)) H1) : tAsg te (gName i) E σ H := d.use s c k
theorem s_ret {te : TE} {E : Ends} {R : Rel α} {x : α} (d : D M te σ I H R x) (s : Sub I H) (c : M.C I H) (k : ∀ v I1 H1, Ex M.m I H I1 H1 → M.C I1 H1 → R I1 v x → E.rt v H1) : tRet te E σ H := d.use s c k
theorem s_if {tc : TT} {t u : TS} {E : Ends} {b : Bool} (d : DT M tc σ I H b) (s : Sub I H) (c : M.C I H) (h1 : b = true → ∀ I1 H1, Ex M.m I H I1 H1 → M.C I1 H1 → t E σ H1) (h2 : b = false → ∀ I1 H1, Ex M.m I H I1 H1 → M.C I1 H1 → u E σ H1) : tIfS tc t u E σ H :=
  d.use s c fun I1 H1 e c1 => by
    cases b with
    | true => exact h1 rfl I1 H1 e c1
    | false => exact h2 rfl I1 H1 e c1
/-- behind a turn: the invariant at the next one -/
def Nxt (M : Mode) (Pv : Nat → L2.St → Hp → Hp → Prop) (I0 : Hp) (i : Nat) : L2.St → Hp → Prop := fun σ' H' => ∃ I', Sub I0 I' ∧ Sub I' H' ∧ M.C I' H' ∧ Pv i σ' I' H'
theorem s_for {wi : TI} {g : TG} {tb : TS} {E : Ends} {S : Rel α} {Γ : L2.St → α → Hp → L2.St → Prop} {xs : List α} (hs : Sr M wi σ I H S xs) (hg : Bind g S Γ) (s : Sub I H) (c : M.C I H) (Pv : Nat → L2.St → Hp → Hp → Prop)
    (st : ∀ i σ I1 H1 I2 H2, Ex0 I1 H1 I2 H2 → Pv i σ I1 H1 → Pv i σ I2 H2) (h0 : ∀ I1 H1, Ex M.m I H I1 H1 → M.C I1 H1 → Pv 0 σ I1 H1)
    (step : ∀ I0, Sub I I0 → ∀ i (hi : i < xs.length) σ1 σ2 I1 H1, Sub I0 I1 → Sub I1 H1 → M.C I1 H1 → Pv i σ1 I1 H1 → Γ σ1 xs[i] I1 σ2 →
      tb { E with nx := Nxt M Pv I0 (i + 1), ct := Nxt M Pv I0 (i + 1), bk := E.nx } σ2 H1)
    (done : ∀ σ1 I1 H1, Sub I I1 → Sub I1 H1 → M.C I1 H1 → Pv xs.length σ1 I1 H1 → E.nx σ1 H1) : tFor wi g tb E σ H := by
  refine hs I H (Ex.refl s) c _ fun J I2 H2 e2 c2 G Y wk hG hY => ?_
  refine for_it wk (fun i => Nxt M Pv I2 i) ⟨I2, Sub.refl, e2.si, c2, h0 I2 H2 e2 c2⟩ (fun i σ' H' hi ⟨I', s1, s2, _⟩ => hG I' H' s1 s2) ?_ ?_
  · rintro i v σ1 H3 H4 hi ⟨I3, s3, s3', c3, p3⟩ hy
    obtain ⟨I4, x4, r4⟩ := hY i I3 H3 v H4 s3 s3' hi hy
    refine hg σ1 I4 H4 v _ x4.si r4 _ fun σ2 hσ => ?_
    exact step I2 e2.ii i hi σ1 σ2 I4 H4 (s3.trans x4.ii) x4.si (M.st x4 c3) (st _ _ _ _ _ _ x4 p3) hσ
  · rintro σ1 H3 ⟨I3, s3, s3', c3, p3⟩
    exact done σ1 I3 H3 (e2.ii.trans s3) s3' c3 p3
/-- while: Pv with a number that falls -/
theorem s_while {tc : TT} {tb : TS} {E : Ends} (s : Sub I H) (c : M.C I H) (Pv : Nat → L2.St → Hp → Hp → Prop) {n0 : Nat} (h0 : Pv n0 σ I H)
    (step : ∀ n σ1 I1 H1, Sub I I1 → Sub I1 H1 → M.C I1 H1 → Pv n σ1 I1 H1 → ∃ b, DT M tc σ1 I1 H1 b ∧
      (b = true → ∀ I2 H2, Ex M.m I1 H1 I2 H2 → M.C I2 H2 → tb { E with nx := fun σ' H' => ∃ n' I', n' < n ∧ Sub I I' ∧ Sub I' H' ∧ M.C I' H' ∧ Pv n' σ' I' H', ct := fun σ' H' => ∃ n' I', n' < n ∧ Sub I I' ∧ Sub I' H' ∧ M.C I' H' ∧ Pv n' σ' I' H', bk := E.nx } σ1 H2) ∧
      (b = false → ∀ I2 H2, Ex M.m I1 H1 I2 H2 → M.C I2 H2 → E.nx σ1 H2)) : tWhile tc tb E σ H := by
  refine ⟨fun n σ' H' => ∃ I', Sub I I' ∧ Sub I' H' ∧ M.C I' H' ∧ Pv n σ' I' H', ⟨n0, I, Sub.refl, s, c, h0⟩, ?_⟩
  rintro n σ1 H1 ⟨I1, s1, s1', c1, p1⟩
  obtain ⟨b, hb, ht, hf⟩ := step n σ1 I1 H1 s1 s1' c1 p1
  refine hb.use s1' c1 fun I2 H2 e2 c2 => ?_
  cases b with
  | false => exact hf rfl I2 H2 e2 c2
  | true =>
    refine ⟨_, fun σ' H' h => ?_, ht rfl I2 H2 e2 c2⟩
    obtain ⟨n', I', hn, a1, a2, a3, a4⟩ := h
    exact ⟨n', hn, I', a1, a2, a3, a4⟩
end
end DL

/-! zip and enumerate over lists and tuples in any mix. -/
namespace DL
open PySem PySem.Spec PyProof.Rows L2 RZ
/-- a list (false) or a tuple (true) -/
def SqA (K : PySem.W.Frag) (kd : Bool) (H : Hp) (a : Addr) (xs : List V) : Prop := match kd with
  | true => SqT K H a xs
  | false => SqL K H a xs
def IsSeqK (kd : Bool) (h : Heap) (a : Addr) (its : Array Value) : Prop := match kd with
  | true => h.IsTuple a its
  | false => h.IsList a its
def IterK (kd : Bool) (h : Heap) (it a : Addr) (i : Nat) : Prop := match kd with
  | true => h.IsTupleIter it a i
  | false => h.IsListIter it a i
def objK (kd : Bool) (a : Addr) : Obj := match kd with
  | true => { cls := .type "tuple_iterator", data := .fields #[.ref a, .int 0 0] }
  | false => { cls := .type "list_iterator", data := .fields #[.ref a, .int 0 0] }
theorem beginsK (kd : Bool) (a : Addr) (its : Array Value) : Begins (.ref a) (objK kd a) fun h => IsSeqK kd h a its := by
  cases kd with
  | true => exact begins_tuple a its
  | false => exact begins_list a its
theorem iter0 {kd : Bool} {h : Heap} {it a : Addr} (e : h.get? it = some (objK kd a)) : IterK kd h it a 0 := by
  cases kd with
  | true => exact ⟨_, e, rfl, rfl⟩
  | false => exact ⟨_, e, rfl, rfl⟩
theorem IterK.obj {kd : Bool} {h : Heap} {it a : Addr} {i : Nat} (e : IterK kd h it a i) : ∃ o vs, h.get? it = some o ∧ o.data = .fields vs := by
  cases kd with
  | true => obtain ⟨o, e, _, d⟩ := e; exact ⟨o, _, e, d⟩
  | false => obtain ⟨o, e, _, d⟩ := e; exact ⟨o, _, e, d⟩
theorem IterK.at {kd : Bool} {h h' : Heap} {it a : Addr} {i : Nat} (e : IterK kd h it a i) (k : ∀ o, h.get? it = some o → h'.get? it = some o) : IterK kd h' it a i := by
  cases kd with
  | true => obtain ⟨o, e, c, d⟩ := e; exact ⟨o, k o e, c, d⟩
  | false => obtain ⟨o, e, c, d⟩ := e; exact ⟨o, k o e, c, d⟩
theorem drawsK {prog : Program} {w : World} {A : Around} (hh : A.handled = none) (kd : Bool) (it a : Addr) (hne : a ≠ it) (its : Array Value) :
    Draws prog w A it [it, a] its.size (fun i v => its[i]? = some v) (fun i h => IterK kd h it a i ∧ IsSeqK kd h a its) := by
  cases kd with
  | true => exact Draws.tuple hh it a hne its
  | false => exact Draws.list hh it a hne its
theorem IsSeqK.lt {kd : Bool} {h : Heap} {a : Addr} {its : Array Value} (e : IsSeqK kd h a its) : a < h.objs.size := by
  cases kd with
  | true => obtain ⟨o, e, _⟩ := e; exact Heap.lt_size e
  | false => obtain ⟨o, e, _⟩ := e; exact Heap.lt_size e
theorem Inv.seqK {X : Cx} {pins : List (Addr × Obj)} {σ : L2.St} {H : Hp} {s : Shared} (I : Inv X pins σ H s) {kd : Bool} {a : Addr} {xs : List V} (h : SqA X.K kd H a xs) : ∃ its, Vals xs its ∧ IsSeqK kd s.heap a its.toArray := by
  cases kd with
  | true => obtain ⟨its, rv, p, _⟩ := I.tuple h; exact ⟨its, rv, p⟩
  | false => obtain ⟨its, rv, p, _⟩ := I.list h; exact ⟨its, rv, p.isList⟩
theorem Inv.seqK_inj {X : Cx} {pins : List (Addr × Obj)} {σ : L2.St} {H : Hp} {s : Shared} (I : Inv X pins σ H s) {kd : Bool} {a : Addr} {xs ys : List V} (h : SqA X.K kd H a xs) (h' : SqA X.K kd H a ys) : xs = ys := by
  cases kd with
  | true => exact I.tuple_inj h h'
  | false => exact I.list_inj h h'

/-! ### two columns side by side -/
/-- a column: what may stand in place i -/
abbrev Col := Nat → Hp → V → Prop
def colN : Col := fun i _ x => x = .int (i : Nat)
def colA (K : PySem.W.Frag) (kd : Bool) (a : Addr) : Col := fun i H x => ∀ xs, SqA K kd H a xs → xs[i]? = some x
/-- how many turns -/
abbrev Long := Nat → Hp → Prop
def longA (K : PySem.W.Frag) (kd : Bool) (a : Addr) : Long := fun n H => ∃ xs : List V, SqA K kd H a xs ∧ n = xs.length
def long2 (f g : Long) : Long := fun n H => ∃ p q, f p H ∧ g q H ∧ n = min p q
/-- each turn lays a tuple of two, one of each column -/
def It2 (l : Long) (c d : Col) : It where
  go i H := ∃ n, l n H ∧ i < n
  yld i H v H' := ∃ T, H T = none ∧ ∃ x y, c i H x ∧ d i H y ∧ v = .ref T ∧ H' = upd H T (.tup [x, y])
  stop := l
/-- the cells of such an iterator (own), and the walk over them in any heap of ours -/
structure Cells (P : Program) (w : World) (K : PySem.W.Frag) (l : Long) (c d : Col) (own : List Addr) (it : Addr) (tn : Nat → Heap → Prop) : Prop where
  head : it ∈ own
  live : ∀ i h, tn i h → ∀ b ∈ own, ∃ o, h.get? b = some o ∧ ∀ v, o.data ≠ .cell v
  stay : ∀ i h h', tn i h → (∀ b ∈ own, ∀ o, h.get? b = some o → h'.get? b = some o) → tn i h'
  same : ∀ (A : Around) (i : Nat) (s : Shared) (Q : Value → Shared → Prop) (E : Value → Shared → Prop), tn i s.heap → Q (.ref it) s → wpAny (model P w) A (pyIter (.ref it)) Q E s
  walk : ∀ (X : Cx), X.prog = P → X.w = w → X.K = K → X.calm = true → ∀ (pins : List (Addr × Obj)) (s : Shared) (σ : L2.St) (H : Hp), Inv X pins σ H s → ∀ n, l n H →
    ∃ fp wr Pt St Mid, WalksT P w X.A it fp wr n Pt St Mid ∧ (∀ b ∈ wr, b ∈ own) ∧ (∀ i, tn i s.heap → St i s.heap) ∧ (∀ i h, St i h → tn i h) ∧
      ∀ i vals, i < n → Pt i vals → ∃ x y u v, vals = #[u, v] ∧ (RelV x u ∧ c i H x) ∧ RelV y v ∧ d i H y
section
variable {P : Program} {w : World} {K : PySem.W.Frag} {l : Long} {c d : Col} {own : List Addr} {it : Addr} {tn : Nat → Heap → Prop}
theorem Cells.turn {elts : List Expr} {kk : Nat} {tpos : Pos} (C : Cells P w K l c d own it tn) : Turn P w K (.Tuple elts kk tpos) (It2 l c d) own it tn where
  mem := C.head
  obj := C.live
  keep := C.stay
  self := C.same
  done X hP hw hK hc i pins s σ H E I hf st hl := by
    obtain ⟨fp, wr, Pt, St, Mid, W, sub, to, _⟩ := C.walk X hP hw hK hc pins s σ H I i hl
    exact W.done s _ E (to i st) fun h' tk k => ⟨rfl, I.turnedL (ch := own) (fun b o hb => k b o fun z => hb (sub b z)) hf⟩
  item X hP hw hK hc i pins s σ H E I hf st hg := by
    obtain ⟨n, hl, hi⟩ := hg
    obtain ⟨fp, wr, Pt, St, Mid, W, sub, to, back, get⟩ := C.walk X hP hw hK hc pins s σ H I n hl
    refine W.item i s _ E hi (to i st) fun T vals h1 tk hv hT tup mid k1 => ⟨_, rfl, W.go elts kk tpos i T _ _ E mid fun h2 st2 k2 => ?_⟩
    obtain ⟨x, y, u, v, rfl, ⟨ru, cx⟩, rv, dy⟩ := get i vals hi hv
    have laid : ObjOk X.prog X.w (upd H T (.tup [x, y])) h2 T (.tup [x, y]) := ⟨(by decide : 2 ≤ sizeLine), _, .cons ru (.cons rv .nil), tup.at fun o => k2 T o (W.apart i T _ mid)⟩
    have kept : ∀ b o, b ∉ own → s.heap.get? b = some o → h2.get? b = some o := fun b o hb q =>
      have hb' : b ∉ wr := fun z => hb (sub b z)
      k2 b o hb' (k1 b o hb' q)
    refine ⟨.ref T, _, I.turnedNew (t' := tk) kept hf hT laid, rfl, ⟨T, I.hok.fresh hT, x, y, cx, dy, rfl, rfl⟩, back _ _ st2, fun b hb => ?_⟩
    obtain ⟨o, e, _⟩ := C.live i _ st b hb
    have lt := Nat.lt_of_lt_of_le (Heap.lt_size e) hT
    rw [upd_ne (Nat.ne_of_lt lt)]
    exact (hf b hb).1
/-- the iterator has just been laid behind the heap -/
theorem Cells.begin {X : Cx} {pins : List (Addr × Obj)} {σ : L2.St} {H : Hp} {s : Shared} {h' : Heap} {R : It → Hp → Prop} {elts : List Expr} {kk : Nat} {tpos : Pos} (C : Cells X.prog X.w X.K l c d own it tn) (I : Inv X pins σ H s)
    (k : ∀ b o, s.heap.get? b = some o → h'.get? b = some o) (st : tn 0 h') (above : ∀ b ∈ own, s.heap.objs.size ≤ b) (r : R (It2 l c d) H) : PIE X pins σ (.Tuple elts kk tpos) R (.ref it) { s with heap := h' } :=
  ⟨it, own, tn, _, H, rfl, I.kept (t' := s.toks) k, C.turn, st, fun b hb => I.fpOk (above b hb) (I.hok.fresh (above b hb)), r⟩
/-- what a walk draws out of a list or tuple stands there -/
theorem drawn_col {X : Cx} {pins : List (Addr × Obj)} {σ : L2.St} {H : Hp} {s : Shared} (I : Inv X pins σ H s) {kd : Bool} {a : Addr} {xs : List V} {its : List Value} {i : Nat} {v : Value} (h : SqA X.K kd H a xs) (r : Vals xs its)
    (hi : i < xs.length) (hv : its.toArray[i]? = some v) : ∃ x, RelV x v ∧ colA X.K kd a i H x := by
  obtain ⟨u, hu, ru⟩ := r.get (List.getElem?_eq_getElem hi)
  have e : some v = some u := by rw [← hu, ← hv]; simp
  cases e
  exact ⟨xs[i], ru, fun ys hy => by rw [← Inv.seqK_inj I h hy]; exact List.getElem?_eq_getElem hi⟩
end
/-! ### enumerate -/
section
variable {P : Program} {w : World} {K : PySem.W.Frag}
theorem enumCells {kd : Bool} {a e it : Addr} (n1 : e ≠ it) (n2 : a ≠ it) (n3 : e ≠ a) :
    Cells P w K (longA K kd a) colN (colA K kd a) [e, it] e (fun i h => (∃ old, IsEnum h e it (i : Nat) old) ∧ IterK kd h it a i) where
  head := List.mem_cons_self ..
  live i h st := by
    obtain ⟨⟨old, he⟩, hi⟩ := st
    obtain ⟨o, vs, ho, hd⟩ := hi.obj
    simp only [List.mem_cons, List.not_mem_nil, or_false, forall_eq_or_imp, forall_eq]
    exact ⟨⟨_, he, nofun⟩, o, ho, fun v q => nomatch hd.symm.trans q⟩
  stay i h h' st k := by
    simp only [List.mem_cons, List.not_mem_nil, or_false, forall_eq_or_imp, forall_eq] at k
    exact ⟨st.1.imp fun old he => k.1 _ he, st.2.at k.2⟩
  same A i s Q E st q := wpAny_pyIter_enum st.1.choose_spec q
  walk X hP hw hK hc pins s σ H I n hl := by
    subst hP hw hK
    obtain ⟨xs, hx, hn⟩ := hl
    obtain ⟨its, rv, p⟩ := Inv.seqK I hx
    have len : its.toArray.size = n := by rw [List.size_toArray, ← rv.length, hn]
    have W := WalksT.enumerateD (prog := X.prog) (w := X.w) (A := X.A) (drawsK (A := X.A.in1) (I.ok.hd hc) kd it a n2 its.toArray) e n1 (by simp [n1, n3]) (List.mem_cons_self ..)
    rw [len] at W
    refine ⟨_, _, _, _, _, W, fun b hb => hb, fun i st => ⟨st.1, st.2, p⟩, fun i h q => ⟨q.1, q.2.1⟩, fun i vals hi q => ?_⟩
    obtain ⟨t, v, hv, e⟩ := q
    obtain ⟨x, r, z⟩ := drawn_col I hx rv (hn ▸ hi) hv
    exact ⟨.int (i : Nat), x, _, _, e, ⟨⟨t, rfl⟩, rfl⟩, r, z⟩
end
/-- the enumerate that is made, counting from 0 -/
def enumO (it : Addr) : Obj := { cls := .type "enumerate", data := .fields #[.none, .bool false, .ref it, rawInt 0, .none, .none] }
theorem enum_new {v : Value} {o : Obj} {H : Heap → Prop} (B : Begins v o H) :
    Meets (Builtin.«enumerate.__new__» ⟨[.type "enumerate", v], []⟩) fun _ R s => H s.heap ∧ R (.ok (.ret (.ref (s.heap.push o).objs.size))) { s with heap := (s.heap.push o).push (enumO s.heap.objs.size) } :=
  .of_wp fun prog w A R s both => by
    rcases s with ⟨hp, gs, dr, tk, os⟩
    have _sub := sub_enumerate
    have first : ∀ {A' : Around} {E' Q' : Value → Shared → Prop}, Q' (.ref hp.objs.size) ⟨hp.push o, gs, dr, tk, os⟩ → wpAny (model prog w) A' (pyIter v) Q' E' ⟨hp, gs, dr, tk, os⟩ := fun q => B.iter _ _ _ _ _ _ both.1 q
    wp_walk using first
    refine wpAny_stack_any fun frames => wpAny_pure ?_
    split
    rotate_left
    · wp_walk using first
      exact ⟨_, rfl, both.2⟩
    · rename_i k _ _ _ _ _
      cases k == Value.type "enumerate"
      all_goals
        wp_walk using first
        exact ⟨_, rfl, both.2⟩
theorem enum_laid {prog : Program} {w : World} {A : Around} {E : Value → Shared → Prop} {s : Shared} {v : Value} {o : Obj} {H : Heap → Prop} {Q : Value → Shared → Prop} (B : Begins v o H) (there : H s.heap)
    (next : Q (.ref (s.heap.objs.size + 1)) { s with heap := (s.heap.push o).push (enumO s.heap.objs.size) }) : wpAny (model prog w) A (call (.type "enumerate") [v]) Q E s := by
  have sz : (s.heap.push o).objs.size = s.heap.objs.size + 1 := Heap.size_push ..
  have isE : Shared.TypeIs { s with heap := (s.heap.push o).push (enumO s.heap.objs.size) } (.ref (s.heap.push o).objs.size) "enumerate" := ⟨enumO s.heap.objs.size, Heap.get?_push_size _ rfl, rfl⟩
  exact callType_new F.called_enumerate (by decide) (F.typeCall_enumerate_1 _) (F.newCall_enumerate_1 _) (fun x => F.args_object_init_2 x _) F.entry_enumerate_new (enum_new B) ⟨there, isE, by rw [sz]; exact next⟩
def iEnumK (K : PySem.W.Frag) (ta : TA) : TI := fun σ H R => ta σ H fun vs H1 => ∃ kd a, vs = [.ref a] ∧ (∃ n, longA K kd a n H1) ∧ R (It2 (longA K kd a) colN (colA K kd a)) H1
theorem pi_enumK {X : Cx} {e : Expr} {ta : TA} {p pos tpos : Pos} {elts : List Expr} {kk : Nat} (hg : Gl X "enumerate") (hm : X.mg "enumerate" = none) (ha : PA X [e] ta) (hs : starEach [e] X.env = [(false, eval e X.env)] := by rfl) :
    PI X (.Tuple elts kk tpos) (.Call (.Name "enumerate" p) [e] [] pos) (iEnumK X.K ta) where
  run pins s σ H R I h := by
    have args := thn (ha.run pos pins s σ H _ I h) (Q' := fun us s1 => wpAny (model X.prog X.w) X.A (call (.type "enumerate") us) (fun v s2 => wpAny (model X.prog X.w) X.A (pyIter v) (PIE X pins σ (.Tuple elts kk tpos) R) X.xe s2) X.xe s1) fun us s1 ⟨vs, H1, I1, rel, kd, a, ev, ⟨n, xs, hx, _⟩, q⟩ => by
      subst ev
      obtain ⟨its, rv, p1⟩ := Inv.seqK I1 hx
      rcases rel with _ | ⟨ra, _ | _⟩
      cases ra
      have lt := p1.lt
      have at0 : (s1.heap.push (objK kd a)).objs.size = s1.heap.objs.size + 1 := Heap.size_push ..
      have got1 := Heap.get?_push_size s1.heap (beginsK kd a its.toArray).free
      have gotE : IsEnum ((s1.heap.push (objK kd a)).push (enumO s1.heap.objs.size)) (s1.heap.objs.size + 1) s1.heap.objs.size 0 .none := by
        rw [← at0]; exact Heap.get?_push_size _ rfl
      refine enum_laid (beginsK kd a its.toArray) p1 (wpAny_pyIter_enum gotE ?_)
      exact (enumCells (Nat.succ_ne_self _) (Nat.ne_of_lt lt) (Nat.ne_of_gt (Nat.lt_succ_of_lt lt))).begin I1 (fun b o q => Heap.get?_push_of_some _ (Heap.get?_push_of_some _ q)) ⟨⟨_, gotE⟩, iter0 (Heap.get?_push_of_some _ got1)⟩
        (List.forall_mem_cons.mpr ⟨Nat.le_succ _, List.forall_mem_cons.mpr ⟨Nat.le_refl _, nofun⟩⟩) q
    exact Call_ (ld_blt I hg hm boot_enumerate (PyProof.Rows.callWith_type1 args hs rfl))
/-! ### zip of two -/
section
variable {P : Program} {w : World} {K : PySem.W.Frag}
theorem zipCells {k1 k2 : Bool} {a b z TI TO i1 i2 : Addr} (D : ZipSep2 z TI TO i1 i2 [i1, a] [i2, b]) (na : a ≠ i1) (nb : b ≠ i2) :
    Cells P w K (long2 (longA K k1 a) (longA K k2 b)) (colA K k1 a) (colA K k2 b) [z, TI, TO, i1, i2] z
      (fun i h => (IsZip h z TI TO .none ∧ IsTupOf2 h TI (.ref i1) (.ref i2) ∧ ∃ x y, IsTupOf2 h TO x y) ∧ IterK k1 h i1 a i ∧ IterK k2 h i2 b i) where
  head := List.mem_cons_self ..
  live i h st := by
    obtain ⟨⟨gz, gI, x, y, gO⟩, j1, j2⟩ := st
    obtain ⟨o1, f1, e1, d1⟩ := j1.obj
    obtain ⟨o2, f2, e2, d2⟩ := j2.obj
    simp only [List.mem_cons, List.not_mem_nil, or_false, forall_eq_or_imp, forall_eq]
    exact ⟨⟨_, gz, nofun⟩, ⟨_, gI, nofun⟩, ⟨_, gO, nofun⟩, ⟨o1, e1, fun v q => nomatch d1.symm.trans q⟩, o2, e2, fun v q => nomatch d2.symm.trans q⟩
  stay i h h' st k := by
    obtain ⟨⟨gz, gI, x, y, gO⟩, j1, j2⟩ := st
    simp only [List.mem_cons, List.not_mem_nil, or_false, forall_eq_or_imp, forall_eq] at k
    exact ⟨⟨k.1 _ gz, k.2.1 _ gI, x, y, k.2.2.1 _ gO⟩, j1.at k.2.2.2.1, j2.at k.2.2.2.2⟩
  same A i s Q E st q := wpAny_pyIter_zip st.1.1 q
  walk X hP hw hK hc pins s σ H I n hl := by
    subst hP hw hK
    obtain ⟨_, _, ⟨xs, hx, rfl⟩, ⟨ys, hy, rfl⟩, hn⟩ := hl
    obtain ⟨its, rx, px⟩ := Inv.seqK I hx
    obtain ⟨jts, ry, py⟩ := Inv.seqK I hy
    have W := WalksT.zipD2 (prog := X.prog) (w := X.w) (A := X.A) D (drawsK (A := X.A.in1) (I.ok.hd hc) k1 i1 a na its.toArray) (drawsK (A := X.A.in1) (I.ok.hd hc) k2 i2 b nb jts.toArray)
    rw [List.size_toArray, List.size_toArray, ← rx.length, ← ry.length, ← hn] at W
    refine ⟨_, _, _, _, _, W, fun c hm => ?_, fun i st => ⟨st.1.1, st.1.2.1, st.1.2.2, ⟨st.2.1, px⟩, st.2.2, py⟩, fun i h q => ⟨⟨q.1, q.2.1, q.2.2.1⟩, q.2.2.2.1.1, q.2.2.2.2.1⟩, fun i vals hi q => ?_⟩
    · revert c
      simp
    · obtain ⟨u, v, hu, hv, e⟩ := q
      have lx : i < xs.length := by omega
      have ly : i < ys.length := by omega
      obtain ⟨x, r1, c1⟩ := drawn_col I hx rx lx hu
      obtain ⟨y, r2, c2⟩ := drawn_col I hy ry ly hv
      exact ⟨x, y, u, v, e, ⟨r1, c1⟩, r2, c2⟩
end
def iZipK (K : PySem.W.Frag) (ta : TA) : TI := fun σ H R => ta σ H fun vs H1 => ∃ k1 k2 a b, vs = [.ref a, .ref b] ∧ (∃ n, long2 (longA K k1 a) (longA K k2 b) n H1) ∧ R (It2 (long2 (longA K k1 a) (longA K k2 b)) (colA K k1 a) (colA K k2 b)) H1
theorem pi_zipK {X : Cx} {e e2 : Expr} {ta : TA} {p pos tpos : Pos} {elts : List Expr} {kk : Nat} (hg : Gl X "zip") (hm : X.mg "zip" = none) (ha : PA X [e, e2] ta)
    (hs : starEach [e, e2] X.env = (false, eval e X.env) :: starEach [e2] X.env := by rfl) (hpl : (backTo pos (starEach [e2] X.env)).any (·.1) = false := by rfl) :
    PI X (.Tuple elts kk tpos) (.Call (.Name "zip" p) [e, e2] [] pos) (iZipK X.K ta) where
  run pins s σ H R I h := by
    have args := thn (ha.run pos pins s σ H _ I h) (Q' := fun us s1 => wpAny (model X.prog X.w) X.A (call (.type "zip") us) (fun v s2 => wpAny (model X.prog X.w) X.A (pyIter v) (PIE X pins σ (.Tuple elts kk tpos) R) X.xe s2) X.xe s1) fun us s1 ⟨vs, H1, I1, rel, k1, k2, a, b, ev, ⟨n, _, _, ⟨xs, hx, _⟩, ⟨ys, hy, _⟩, _⟩, q⟩ => by
      subst ev
      obtain ⟨its, rx, px⟩ := Inv.seqK I1 hx
      obtain ⟨jts, ry, py⟩ := Inv.seqK I1 hy
      rcases rel with _ | ⟨ra, _ | ⟨rb, _ | _⟩⟩
      cases ra
      cases rb
      have D := zip_sep2 (fp1 := [a]) (fp2 := [b]) (List.forall_mem_cons.mpr ⟨px.lt, nofun⟩) (List.forall_mem_cons.mpr ⟨py.lt, nofun⟩)
      refine zip_begins2 (beginsK k1 a its.toArray) (beginsK k2 b jts.toArray) px py fun h' gz gI gO g1 g2 _ k => wpAny_pyIter_zip gz ?_
      have up : ∀ j : Nat, s1.heap.objs.size ≤ s1.heap.objs.size + j := fun j => Nat.le_add_right _ j
      exact (zipCells D (Nat.ne_of_lt px.lt) (Nat.ne_of_lt (Nat.lt_succ_of_lt py.lt))).begin I1 k ⟨⟨gz, gI, _, _, gO⟩, iter0 g1, iter0 g2⟩
        (List.forall_mem_cons.mpr ⟨up 4, List.forall_mem_cons.mpr ⟨up 2, List.forall_mem_cons.mpr ⟨up 3, List.forall_mem_cons.mpr ⟨up 0, List.forall_mem_cons.mpr ⟨up 1, nofun⟩⟩⟩⟩⟩) q
    exact Call_ (ld_blt I hg hm PyProof.Rows.boot_zip (PyProof.Rows.callWith_type1 args hs hpl))
/-! ### the sources -/
section
variable {α β : Type} {M : Mode} {σ : L2.St} {I H : Hp} {K : PySem.W.Frag}
/-- a list (false) or a tuple (true) of data -/
def dA (kd : Bool) (R : Rel α) : Rel (List α) := match kd with
  | true => dT R
  | false => dL R
theorem dA.seq {kd : Bool} {R : Rel α} {v : V} {xs : List α} (h : dA kd R I v xs) : ∃ a vs, v = .ref a ∧ (∀ I' H', Sub I I' → Sub I' H' → SqA K kd H' a vs) ∧ Paired (R I) vs xs := by
  cases kd with
  | true => obtain ⟨a, vs, e, h, p⟩ := h; exact ⟨a, vs, e, fun I' H' s s' => SqT.mk' (s' _ _ (s _ _ h)), p⟩
  | false => obtain ⟨a, vs, e, h, p⟩ := h; exact ⟨a, vs, e, fun I' H' s s' => SqL.mk' (s' _ _ (s _ _ h)), p⟩
theorem walk2 {l : Long} {c d : Col} {n : Nat} {G : Hp → Prop} {f g : Nat → Option V} (hl : ∀ H, G H → l n H) (hc : ∀ i H x, G H → c i H x → f i = some x) (hd : ∀ i H y, G H → d i H y → g i = some y) : Walk (It2 l c d) n G (YPair f g) where
  goes i H hi h := ⟨n, hl H h, hi⟩
  stops := hl
  yields i H v H' _ h := fun ⟨T, new, x, y, cx, dy, ev, eH⟩ => ⟨T, x, y, ev, new, eH, hc i H x h cx, hd i H y h dy⟩
/-- the pair that a turn lays stands for the i-th pair -/
theorem pair_in {R : Rel α} {S : Rel β} [Mono R] [Mono S] {f g : Nat → Option V} {zs : List (α × β)} {I2 : Hp} (h : ∀ i x y, f i = some x → g i = some y → ∀ hi : i < zs.length, R I2 x zs[i].1 ∧ S I2 y zs[i].2) (i : Nat) (I3 H3 : Hp) (v : V) (H4 : Hp) (s : Sub I2 I3) (s' : Sub I3 H3)
    (hi : i < zs.length) (q : YPair f g i H3 v H4) : ∃ I4, Ex0 I3 H3 I4 H4 ∧ dP R S I4 v zs[i] := by
  obtain ⟨T, x, y, rfl, new, rfl, fx, gy⟩ := q
  obtain ⟨r1, r2⟩ := h i x y fx gy hi
  exact pair_new s' new (Mono.up r1 s) (Mono.up r2 s)
/-- (0, first), (1, second), .. -/
def enum (xs : List α) : List (Int × α) := xs.zipIdx.map fun p => ((p.2 : Int), p.1)
theorem enum_length (xs : List α) : (enum xs).length = xs.length := by unfold enum; simp
theorem enum_get? {xs : List α} {i : Nat} {x : α} (h : xs[i]? = some x) : (enum xs)[i]? = some ((i : Int), x) := by
  unfold enum
  rw [List.getElem?_map, List.getElem?_zipIdx, h]
  simp
theorem s_enumK {R : Rel α} [Mono R] {kd : Bool} {te : TE} {xs : List α} (ha : D M te σ I H (dA kd R) xs) : Sr M (iEnumK K (tCons te tNil)) σ I H (dP dI R) (enum xs) := by
  intro I1 H1 e c Rk k
  refine ha I1 H1 e c _ fun v I2 H2 e2 c2 r => ?_
  obtain ⟨a, vs, ev, h, p⟩ := r.seq
  have len : (enum xs).length = vs.length := (enum_length xs).trans (Paired.length p).symm
  have W : Walk (It2 (longA K kd a) colN (colA K kd a)) (enum xs).length (fun H => SqA K kd H a vs) (YPair (fun i => some (.int (i : Nat))) fun i => vs[i]?) :=
    walk2 (fun H q => ⟨vs, q, len⟩) (fun i H x _ z => congrArg some z.symm) fun i H y q z => z vs q
  have here := h I2 H2 Sub.refl e2.si
  refine ⟨kd, a, by rw [ev], ⟨_, vs, here, rfl⟩, k _ I2 H2 e2 c2 _ _ W (fun I4 H4 s s' => h I4 H4 s s') (pair_in fun i x y fx gy hi => ?_)⟩
  obtain ⟨z, g1, g2⟩ := paired_get p gy
  have ez := enum_get? g1
  rw [List.getElem?_eq_getElem hi, Option.some.injEq] at ez
  rw [ez]
  exact ⟨(Option.some.inj fx).symm, g2⟩
theorem s_zipK {R : Rel α} {S : Rel β} [Mono R] [Mono S] {k1 k2 : Bool} {ta tb : TE} {xs : List α} {ys : List β} (ha : D M ta σ I H (dA k1 R) xs) (hb : D M tb σ I H (dA k2 S) ys) : Sr M (iZipK K (tCons ta (tCons tb tNil))) σ I H (dP R S) (xs.zip ys) := by
  intro I1 H1 e c Rk k
  refine ha I1 H1 e c _ fun v I2 H2 e2 c2 r => hb I2 H2 (e.trans e2) c2 _ fun w I3 H3 e3 c3 r' => ?_
  obtain ⟨a, vs, ev, h, p⟩ := r.seq
  obtain ⟨b, ws, ew, h', p'⟩ := r'.seq
  have len : (xs.zip ys).length = min vs.length ws.length := by rw [List.length_zip, Paired.length p, Paired.length p']
  have W : Walk (It2 (long2 (longA K k1 a) (longA K k2 b)) (colA K k1 a) (colA K k2 b)) (xs.zip ys).length (fun H => SqA K k1 H a vs ∧ SqA K k2 H b ws) (YPair (fun i => vs[i]?) fun i => ws[i]?) :=
    walk2 (fun H q => ⟨_, _, ⟨vs, q.1, rfl⟩, ⟨ws, q.2, rfl⟩, len⟩) (fun i H x q z => z vs q.1) fun i H y q z => z ws q.2
  have now : ∀ I4 H4, Sub I3 I4 → Sub I4 H4 → SqA K k1 H4 a vs ∧ SqA K k2 H4 b ws := fun I4 H4 s s' => ⟨h I4 H4 (e3.ii.trans s) s', h' I4 H4 s s'⟩
  have here := now I3 H3 Sub.refl e3.si
  refine ⟨k1, k2, a, b, by rw [ev, ew], ⟨_, _, _, ⟨vs, here.1, rfl⟩, ⟨ws, here.2, rfl⟩, rfl⟩, k _ I3 H3 (e2.trans e3) c3 _ _ W now (pair_in fun i x y fx gy hi => ?_)⟩
  obtain ⟨x', g1, g2⟩ := paired_get p fx
  obtain ⟨y', g3, g4⟩ := paired_get p' gy
  have ez : (xs.zip ys)[i]? = some (x', y') := List.getElem?_zip_eq_some.mpr ⟨g1, g3⟩
  rw [List.getElem?_eq_getElem hi, Option.some.injEq] at ez
  rw [ez]
  exact ⟨Mono.up g2 e3.ii, g4⟩
section
variable {R : Rel α} {S : Rel β} [Mono R] [Mono S] {ta tb : TE} {xs : List α} {ys : List β}
theorem s_enumT (ha : D M ta σ I H (dT R) xs) : Sr M (iEnumK K (tCons ta tNil)) σ I H (dP dI R) (enum xs) := s_enumK (kd := true) ha
theorem s_enumL (ha : D M ta σ I H (dL R) xs) : Sr M (iEnumK K (tCons ta tNil)) σ I H (dP dI R) (enum xs) := s_enumK (kd := false) ha
theorem s_zipTT (ha : D M ta σ I H (dT R) xs) (hb : D M tb σ I H (dT S) ys) : Sr M (iZipK K (tCons ta (tCons tb tNil))) σ I H (dP R S) (xs.zip ys) := s_zipK (k1 := true) (k2 := true) ha hb
theorem s_zipTL (ha : D M ta σ I H (dT R) xs) (hb : D M tb σ I H (dL S) ys) : Sr M (iZipK K (tCons ta (tCons tb tNil))) σ I H (dP R S) (xs.zip ys) := s_zipK (k1 := true) (k2 := false) ha hb
theorem s_zipLT (ha : D M ta σ I H (dL R) xs) (hb : D M tb σ I H (dT S) ys) : Sr M (iZipK K (tCons ta (tCons tb tNil))) σ I H (dP R S) (xs.zip ys) := s_zipK (k1 := false) (k2 := true) ha hb
theorem s_zipLL (ha : D M ta σ I H (dL R) xs) (hb : D M tb σ I H (dL S) ys) : Sr M (iZipK K (tCons ta (tCons tb tNil))) σ I H (dP R S) (xs.zip ys) := s_zipK (k1 := false) (k2 := false) ha hb
end
end
end DL

/-! The layer's rules with the written part named, so that a comprehension's parts tell nothing of its frame. -/
namespace DL
open PySem PySem.Spec PyProof.Rows L2 RZ
section
variable {X : Cx} (K : PySem.W.Frag) {e a o : Expr} {ta te tl to : TE} {pos apos cpos p tpos : Pos} {es : List Expr} {tg : Expr} {f : Str}
theorem kfld (he : PE X e ta) (hb : attributeBase e f X.env (eval e X.env) = eval e X.env := by rfl) (h : X.K = K := by rfl) : PE X (.Attribute e f pos) (tFld K ta f) := by subst h; exact pe_fld he hb
theorem klist (hl : PE X e tl) (h : X.K = K := by rfl) : PI X tg e (iList K tl) := by subst h; exact pi_list hl
theorem ktup (hl : PE X e tl) (h : X.K = K := by rfl) : PI X tg e (iTup K tl) := by subst h; exact pi_tup hl
theorem kzip {e2 : Expr} {t : TA} {elts : List Expr} {kk : Nat} (hg : Gl X "zip") (hm : X.mg "zip" = none) (ha : PA X [e, e2] t) (hs : starEach [e, e2] X.env = (false, eval e X.env) :: starEach [e2] X.env := by rfl) (hpl : (backTo pos (starEach [e2] X.env)).any (·.1) = false := by rfl) (h : X.K = K := by rfl) :
    PI X (.Tuple elts kk tpos) (.Call (.Name "zip" p) [e, e2] [] pos) (iZipK K t) := by subst h; exact pi_zipK hg hm ha hs hpl
theorem kenum {t : TA} {elts : List Expr} {kk : Nat} (hg : Gl X "enumerate") (hm : X.mg "enumerate" = none) (ha : PA X [e] t) (hs : starEach [e] X.env = [(false, eval e X.env)] := by rfl) (h : X.K = K := by rfl) :
    PI X (.Tuple elts kk tpos) (.Call (.Name "enumerate" p) [e] [] pos) (iEnumK K t) := by subst h; exact pi_enumK hg hm ha hs
theorem ktuple (hg : Gl X "tuple") (hm : X.mg "tuple" = none) (ha : PE X a ta) (na : starEach [a] X.env = (false, eval a X.env) :: starEach [] X.env := by rfl) (h : X.K = K := by rfl) :
    PE X (.Call (.Name "tuple" p) [a] [] pos) (tThen ta (kTup K)) := by subst h; exact pe_tupleOf hg hm ha na
theorem ksum (hc : X.calm = true) (h : X.K = K := by rfl) : CallR X (.builtin "sum") (rSum K) := by subst h; exact cr_sum hc
theorem kmax (hc : X.calm = true) (h : X.K = K := by rfl) : CallR X (.builtin "max") (rMax K) := by subst h; exact cr_max hc
theorem kmin (hc : X.calm = true) (h : X.K = K := by rfl) : CallR X (.builtin "min") (rMin K) := by subst h; exact cr_min hc
theorem kany (hc : X.calm = true) (h : X.K = K := by rfl) : CallR X (.builtin "any") (rAny K) := by subst h; exact cr_any hc
theorem kall (hc : X.calm = true) (h : X.K = K := by rfl) : CallR X (.builtin "all") (rAll K) := by subst h; exact cr_all hc
theorem klen (h : X.K = K := by rfl) : CallR X (.builtin "len") (fun xs H Q => ∃ p ys, xs = [.ref p] ∧ (SqL K H p ys ∨ SqT K H p ys) ∧ Q (.int ys.length) H) := by subst h; exact call_len_seq
theorem klistof (h : X.K = K := by rfl) : CallR X (.type "list") (fun xs H Q => ∃ p ys, xs = [.ref p] ∧ (SqL K H p ys ∨ SqT K H p ys) ∧ ∀ l, H l = none → Q (.ref l) (upd H l (.lst ys))) := by subst h; exact call_list_of
theorem kisi (h : X.K = K := by rfl) : CallR X (.builtin "isinstance") (rIsi K) := by subst h; exact call_isi
theorem kcatT (h : X.K = K := by rfl) : OpR X (binaryOp .Add) (rCatA K) := by subst h; exact op_catA
theorem kslT (h : X.K = K := by rfl) : SlR X (rSlA K) := by subst h; exact sl_tupA
theorem kslL (h : X.K = K := by rfl) : SlR X (rSlL K) := by subst h; exact sl_list
theorem kixT (h : X.K = K := by rfl) : IxR X (rIxT K) := by subst h; exact ix_tup
theorem kixL (h : X.K = K := by rfl) : IxR X (rIxL K) := by subst h; exact ix_list
theorem kin (h : X.K = K := by rfl) : OpR X (compareOp .In) (rIn K false) := by subst h; exact op_in_seq
theorem knotin (h : X.K = K := by rfl) : OpR X (compareOp .NotIn) (rIn K true) := by subst h; exact op_notIn_seq
theorem kltT (hu : X.A.units < cLine) (h : X.K = K := by rfl) : OpR X (compareOp .Lt) (rLtT K) := by subst h; exact op_ltT hu
theorem keqD (hu : X.A.units + 64 < cLine) (h : X.K = K := by rfl) : OpR X (compareOp .Eq) (rEqD K) := by subst h; exact op_eqD hu
theorem kneD (hu : X.A.units + 64 < cLine) (h : X.K = K := by rfl) : OpR X (compareOp .NotEq) (rNeD K) := by subst h; exact op_neD hu
theorem kgtup {k n : Nat} {t : TGs} (hc : X.calm = true) (h1 : PGs X es t) (hn : (assignEach es X.env).length = n := by rfl) (hst : (assignEach es X.env).findIdx? (·.1) = none := by rfl) (h : X.K = K := by rfl) : PG X (.Tuple es k pos) (gTup K n t) := by subst h; exact pg_tup hc h1 hn hst
end
end DL

set_option maxHeartbeats 4000000
/-! more operators: tuple * int of any count, sum of a tuple -/
namespace DL
open PySem PySem.Spec PyProof.Rows L2 RZ
/-- the tuple cell that * looks at -/
abbrev tupO (xs : Array Value) (n : Nat) (dc : Option Addr) (sl : Array (Option Value)) : Obj := { cls := .type "tuple", dict := dc, data := .seq xs n, slots := sl }
section
variable (l : Addr) (xs : Array Value) (n : Nat) (dc : Option Addr) (sl : Array (Option Value)) (k : Int) (tk : Tok)
/-- taken once, or empty: the tuple itself -/
theorem tuple_mulS (fits : (decide (k < -(2 ^ 63)) || decide (k ≥ 2 ^ 63)) = false) (same : (xs.isEmpty || k == 1) = true) :
    Meets (Builtin.«tuple.__mul__» ⟨[.ref l, .int k tk], []⟩) fun _ R s => s.heap.get? l = some (tupO xs n dc sl) ∧ R (.ok (.ret (.ref l))) s :=
  .of_wp fun prog w A R s both => by
    rcases s with ⟨hp, gs, dr, t, os⟩
    have gl := both.1
    have _i := AutoSeq1.idx_int
    have no : decide ((decide (k < -(2 ^ 63)) || decide (k ≥ 2 ^ 63)) = true) = false := decide_eq_false (fits ▸ Bool.false_ne_true)
    wp_walk using wpAny_loadPart' gl
    repeat' first
      | (refine wpAny_ite_false no ?_; wp_walk using wpAny_loadPart' gl)
      | (refine wpAny_ite_true (decide_eq_true same) ?_; wp_walk using wpAny_loadPart' gl)
    exact ⟨_, rfl, both.2⟩
/-- taken not at all: a new empty tuple -/
theorem tuple_mulE (fits : (decide (k < -(2 ^ 63)) || decide (k ≥ 2 ^ 63)) = false) (same : (xs.isEmpty || k == 1) = false) (none_ : (decide (k ≤ 0) || xs.isEmpty) = true) :
    Meets (Builtin.«tuple.__mul__» ⟨[.ref l, .int k tk], []⟩) fun _ R s => s.heap.get? l = some (tupO xs n dc sl) ∧ R (.ok (.ret (.ref s.heap.objs.size))) { s with heap := s.heap.push { cls := .type "tuple", data := .seq #[] } } :=
  .of_wp fun prog w A R s both => by
    rcases s with ⟨hp, gs, dr, t, os⟩
    have gl := both.1
    have _i := AutoSeq1.idx_int
    have no : decide ((decide (k < -(2 ^ 63)) || decide (k ≥ 2 ^ 63)) = true) = false := decide_eq_false (fits ▸ Bool.false_ne_true)
    have no1 : decide ((xs.isEmpty || k == 1) = true) = false := decide_eq_false (same ▸ Bool.false_ne_true)
    wp_walk using wpAny_loadPart' gl
    repeat' first
      | (refine wpAny_ite_false no ?_; wp_walk using wpAny_loadPart' gl)
      | (refine wpAny_ite_false no1 ?_; wp_walk using wpAny_loadPart' gl)
      | (refine wpAny_ite_true (decide_eq_true none_) ?_; wp_walk using wpAny_loadPart' gl)
    exact ⟨_, rfl, both.2⟩
end
/-- a tuple taken k times: k from far below 0 up to 1000 -/
def rRepA (K : PySem.W.Frag) : R2 := fun x y H Q => ∃ l k xs, x = .ref l ∧ y = .int k ∧ SqT K H l xs ∧ -1000 ≤ k ∧ k ≤ 1000 ∧ xs.length ≤ 1000 ∧
  (xs = [] ∨ k = 1 → Q (.ref l) H) ∧ (¬ (xs = [] ∨ k = 1) → ∀ p, H p = none → Q (.ref p) (upd H p (.tup (List.replicate k.toNat xs).flatten)))
section
variable {X : Cx}
theorem op_repA : OpR X (binaryOp .Mult) (rRepA X.K) := by
  intro pins s σ H x y v u Q I rx ry ⟨l, k, xs, ex, ey, hT, lo, hi, few, stay, make⟩
  by_cases big : xs ≠ [] ∧ 2 ≤ k
  · -- the library's own case
    exact op_repT pins s σ H x y v u Q I rx ry ⟨l, k, xs, ex, ey, hT, big.1, big.2, hi, few, make (fun z => z.elim big.1 fun e => by omega)⟩
  subst ex ey
  cases rx
  obtain ⟨t, rfl⟩ := ry
  obtain ⟨its, r, ⟨⟨cls, dd, data, sl⟩, at1, c1, n, d1⟩, -⟩ := I.tuple hT
  cases (show cls = Value.type "tuple" from c1)
  cases (show data = Data.seq its.toArray n from d1)
  have same : its.toArray.isEmpty = decide (xs = []) := by
    cases r with
    | nil => rfl
    | cons _ _ => rfl
  have small : (decide (k < -(2 ^ 63)) || decide (k ≥ 2 ^ 63)) = false := by simp; omega
  by_cases hs : xs = [] ∨ k = 1
  · have self : (its.toArray.isEmpty || k == 1) = true := by rw [same]; simpa using hs
    refine wpAny_binaryOp_repeat_ref (T := "tuple") (U := "int") (by decide) ⟨_, at1, rfl⟩ (fun s' => typeIs_int s' k t) noFill_tuple_mul F.fills_int_mul F.slot_int_rmul repeat_tuple F.slot_int_index.lookup ?_
    refine call_meets F.slot_int_rmul (typeIs_int s k t) F.entry_int_rmul (F.args_int_rmul_2 _ _) (int_rmul_tuple k t l its.toArray n dd sl) ⟨at1, rfl, ⟨_, at1, rfl⟩, ?_⟩
    exact call_meets F.slot_tuple_mul ⟨_, at1, rfl⟩ F.entry_tuple_mul (F.args_tuple_mul_2 _ _) (tuple_mulS l its.toArray n dd sl k t small self) ⟨at1, .ref l, H, I, rfl, stay hs⟩
  · have other : (its.toArray.isEmpty || k == 1) = false := by rw [same]; simpa using hs
    have none_ : k.toNat = 0 := by
      by_cases he : xs = []
      · exact absurd (.inl he) hs
      · have : ¬ 2 ≤ k := fun z => big ⟨he, z⟩
        have : k ≠ 1 := fun z => hs (.inr z)
        omega
    have low : (decide (k ≤ 0) || its.toArray.isEmpty) = true := by rw [decide_eq_true (by omega)]; rfl
    have q := make hs _ (I.hok.fresh (Nat.le_refl _))
    rw [none_] at q
    refine wpAny_binaryOp_repeat_ref (T := "tuple") (U := "int") (by decide) ⟨_, at1, rfl⟩ (fun s' => typeIs_int s' k t) noFill_tuple_mul F.fills_int_mul F.slot_int_rmul repeat_tuple F.slot_int_index.lookup ?_
    refine call_meets F.slot_int_rmul (typeIs_int s k t) F.entry_int_rmul (F.args_int_rmul_2 _ _) (int_rmul_tuple k t l its.toArray n dd sl) ⟨at1, rfl, ⟨_, at1, rfl⟩, ?_⟩
    refine call_meets F.slot_tuple_mul ⟨_, at1, rfl⟩ F.entry_tuple_mul (F.args_tuple_mul_2 _ _) (tuple_mulE l its.toArray n dd sl k t small other low) ⟨at1, .ref s.heap.objs.size, _, I.laid (t' := s.toks) (o := .tup []) (fun b ob z => Heap.get?_push_of_some _ z) (Nat.le_refl _) ⟨Nat.zero_le _, [], .nil, IsTup.new _ _⟩, rfl, q⟩
/-- sum of a list or a tuple of ints -/
def rSumA (K : PySem.W.Frag) : List V → Hp → VK → Prop := fun vs H Q => ∃ (kd : Bool) (a : Addr) (ns : List Int), vs = [V.ref a] ∧ SqA K kd H a (ns.map V.int) ∧ Q (.int ns.sum) H
theorem cr_sumA (hc : X.calm = true) : CallR X (.builtin "sum") (rSumA X.K) := by
  intro ps s τ G vs us Q I rel now
  obtain ⟨kd, a, ns, rfl, hs, q⟩ := now
  cases kd with
  | false => exact cr_sum hc ps s τ G _ us Q I rel ⟨a, ns, rfl, hs, q⟩
  | true =>
    obtain ⟨its, rv, hl, _⟩ := I.tuple hs
    rw [Vals.ref1 rel]
    have hi := rv.ints
    have hl2 : s.heap.IsTuple a its.toArray := hl
    obtain ⟨zs, hz⟩ := hi.allInts.items
    have hn : numsOf its.toArray.toList = ns := by rw [show its.toArray.toList = its from rfl, hi.numsOf]
    rw [hz] at hl2 hn
    rw [nums_intItems] at hn
    refine PySem.W.ktm_sumG (I.ok.hd hc) hl2 fun h' tk t' hk => ?_
    rw [preSum_eq, List.take_of_length_le (Nat.le_of_eq (by simp)), hn]
    exact ⟨.int _, G, I.kept hk, ⟨_, rfl⟩, q⟩
end
section
variable {X : Cx} (K : PySem.W.Frag)
theorem krepT (h : X.K = K := by rfl) : OpR X (binaryOp .Mult) (rRepA K) := by subst h; exact op_repA
theorem ksumA (hc : X.calm = true) (h : X.K = K := by rfl) : CallR X (.builtin "sum") (rSumA K) := by subst h; exact cr_sumA hc
end
section
variable {α β : Type} {M : Mode} {σ : L2.St} {I H : Hp} {K : PySem.W.Frag}
theorem e_repT {R : Rel α} [Mono R] {ta tb : TE} {xs : List α} {n : Int} (ha : D M ta σ I H (dT R) xs) (hb : D M tb σ I H dI n) (h1 : -1000 ≤ n) (h2 : n ≤ 1000) (hz : xs.length ≤ 1000) :
    D M (tOp (rRepA K) ta tb) σ I H (dT R) (List.replicate n.toNat xs).flatten := fun I1 H1 e c Q k =>
  ha I1 H1 e c _ fun v I2 H2 e2 c2 ⟨a, vs, ev, h, p⟩ => hb I2 H2 (e.trans e2) c2 _ fun w I3 H3 e3 c3 q => by
    have ha3 : I3 a = some (.tup vs) := e3.ii _ _ h
    refine ⟨a, n, vs, ev, q, SqT.mk' (e3.si _ _ ha3), h1, h2, by rw [Paired.length p]; exact hz, fun hs => ?_, fun _ q hq => ?_⟩
    · refine k _ I3 H3 (e2.trans e3) c3 ⟨a, vs, rfl, ha3, ?_⟩
      rcases hs with z | z
      · subst z
        have n2 := paired_nil_left p
        subst n2
        rw [show (List.replicate n.toNat ([] : List α)).flatten = [] by simp]
        exact .nil
      · subst z
        simpa using paired_up p e3.ii
    · have z := Ex.new (m := no) (o := .tup (List.replicate n.toNat vs).flatten) e3.si hq
      exact k _ _ _ ((e2.trans e3).trans z.of0) (M.st z c3) ⟨q, _, rfl, upd_same, paired_up (paired_rep (paired_up p e3.ii) _) z.ii⟩
theorem e_sumAL {te : TE} {xs : List Int} (h : D M te σ I H (dL dI) xs) : D M (tCB (rSumA K) (tCons te tNil)) σ I H dI xs.sum := fun I1 H1 e c Q k =>
  h I1 H1 e c _ fun v I2 H2 e2 c2 ⟨a, vs, ev, h, p⟩ => ⟨false, a, xs, by rw [ev], SqL.mk' (by rw [← paired_ints p]; exact e2.si _ _ h), k _ I2 H2 e2 c2 rfl⟩
theorem e_sumAT {te : TE} {xs : List Int} (h : D M te σ I H (dT dI) xs) : D M (tCB (rSumA K) (tCons te tNil)) σ I H dI xs.sum := fun I1 H1 e c Q k =>
  h I1 H1 e c _ fun v I2 H2 e2 c2 ⟨a, vs, ev, h, p⟩ => ⟨true, a, xs, by rw [ev], SqT.mk' (by rw [← paired_ints p]; exact e2.si _ _ h), k _ I2 H2 e2 c2 rfl⟩
end
end DL

/-! more of the data layer: chains, isinstance, == of data, raises never met -/
namespace DL
open PySem PySem.Spec PyProof.Rows L2 RZ
section
variable {α β : Type} {M : Mode} {σ : L2.St} {I H : Hp} {K : PySem.W.Frag}
theorem e_chain {ta tb tc : TE} {a b c : Int} {f g : Int → Int → Bool} (ha : D M ta σ I H dI a) (hb : D M tb σ I H dI b) (hc : f a b = true → D M tc σ I H dI c) :
    D M (tChain (L2.rI0 fun i j => .bl (f i j)) (L2.rI0 fun i j => .bl (g i j)) ta tb tc) σ I H dB (f a b && g b c) := fun I1 H1 e cc Q k =>
  ha I1 H1 e cc _ fun v I2 H2 e2 c2 r => hb I2 H2 (e.trans e2) c2 _ fun w I3 H3 e3 c3 q => ⟨a, b, r, q, f a b, rfl, by
    cases h : f a b with
    | false => exact k _ I3 H3 (e2.trans e3) c3 (by rw [h]; rfl)
    | true =>
      exact hc h I3 H3 ((e.trans e2).trans e3) c3 _ fun z I4 H4 e4 c4 t => ⟨b, c, q, t, k _ I4 H4 ((e2.trans e3).trans e4) c4 (by rw [h]; rfl)⟩⟩
theorem e_neg {ta : TE} {a : Int} (ha : D M ta σ I H dI a) : D M (tUn (rU fun i => .int (-i)) ta) σ I H dI (-a) := fun I1 H1 e cc Q k =>
  ha I1 H1 e cc _ fun v I2 H2 e2 c2 r => ⟨a, r, k _ I2 H2 e2 c2 rfl⟩
/-! isinstance(x, a built-in type) -/
theorem e_isi {R : Rel α} {te : TE} {x : α} {n m : String} {b : Bool} (h : D M te σ I H R x) (ht : ∀ I H v, R I v x → Sub I H → TyX K H v (.type m)) (hk : kitB m n = some b := by decide +kernel) :
    D M (tCB (rIsi K) (tCons te (tCons (tC (.ty n)) tNil))) σ I H dB b := fun I1 H1 e cc Q k =>
  h I1 H1 e cc _ fun v I2 H2 e2 c2 r => ⟨v, .ty n, .type m, .type n, b, rfl, .ty n, ht I2 H2 v r e2.si, kit_ty hk, k _ I2 H2 e2 c2 rfl⟩
theorem ty_int {I H : Hp} {v : V} {i : Int} (r : dI I v i) (_ : Sub I H) : TyX K H v (.type "int") := by rw [show v = _ from r]; exact .base (.int i)
theorem ty_tup {R : Rel α} {I H : Hp} {v : V} {xs : List α} (r : dT R I v xs) (s : Sub I H) : TyX K H v (.type "tuple") := by
  obtain ⟨a, vs, e, h, _⟩ := r
  rw [e]; exact .base (.tup (s _ _ h))
/-! a value of any of the simple kinds -/
inductive Wv where
  | int (i : Int)
  | bl (b : Bool)
  | non
  | str (x : Str)
  | lst
  | tup
  deriving DecidableEq
def dW : Rel Wv := fun I v x => match x with
  | .int i => v = .int i
  | .bl b => v = .bl b
  | .non => v = .non
  | .str x => v = .str x
  | .lst => ∃ a vs, v = .ref a ∧ I a = some (.lst vs)
  | .tup => ∃ a vs, v = .ref a ∧ I a = some (.tup vs)
instance : Mono dW := ⟨fun {I I' v x} h s => by
  cases x with
  | lst => obtain ⟨a, vs, e, h⟩ := h; exact ⟨a, vs, e, s _ _ h⟩
  | tup => obtain ⟨a, vs, e, h⟩ := h; exact ⟨a, vs, e, s _ _ h⟩
  | _ => exact h⟩
def Wv.ty : Wv → String
  | .int _ => "int"
  | .bl _ => "bool"
  | .non => "NoneType"
  | .str _ => "str"
  | .lst => "list"
  | .tup => "tuple"
theorem ty_W {I H : Hp} {v : V} {x : Wv} (r : dW I v x) (s : Sub I H) : TyX K H v (.type x.ty) := by
  cases x with
  | int i => rw [show v = _ from r]; exact .base (.int i)
  | bl i => rw [show v = _ from r]; exact .base (.bl i)
  | non => rw [show v = _ from r]; exact .base .non
  | str i => rw [show v = _ from r]; exact .base (.str i)
  | lst => obtain ⟨a, vs, e, h⟩ := r; rw [e]; exact .base (.lst (s _ _ h))
  | tup => obtain ⟨a, vs, e, h⟩ := r; rw [e]; exact .base (.tup (s _ _ h))
def Wv.isInt : Wv → Bool
  | .int _ => true
  | .bl _ => true
  | _ => false
def Wv.isBool : Wv → Bool
  | .bl _ => true
  | _ => false
def Wv.isTup : Wv → Bool
  | .tup => true
  | _ => false
theorem kitW {n : String} {p : Wv → Bool} (h : ∀ m, m ∈ [("int", p (.int 0)), ("bool", p (.bl true)), ("NoneType", p .non), ("str", p (.str ⟨#[]⟩)), ("list", p .lst), ("tuple", p .tup)] → kitB m.1 n = some m.2) (hi : ∀ i, p (.int i) = p (.int 0)) (hb : ∀ i, p (.bl i) = p (.bl true)) (hs : ∀ i, p (.str i) = p (.str ⟨#[]⟩)) (x : Wv) : kitB x.ty n = some (p x) := by
  cases x with
  | int i => rw [hi]; exact h ("int", _) (by simp)
  | bl i => rw [hb]; exact h ("bool", _) (by simp)
  | non => exact h ("NoneType", _) (by simp)
  | str i => rw [hs]; exact h ("str", _) (by simp)
  | lst => exact h ("list", _) (by simp)
  | tup => exact h ("tuple", _) (by simp)
section
variable {te : TE} {x : Wv}
theorem e_isiWi (h : D M te σ I H dW x) : D M (tCB (rIsi K) (tCons te (tCons (tC (.ty "int")) tNil))) σ I H dB x.isInt :=
  e_isi h (fun I H v r s => ty_W r s) (kitW (p := Wv.isInt) (by decide +kernel) (fun _ => rfl) (fun _ => rfl) (fun _ => rfl) x)
theorem e_isiWb (h : D M te σ I H dW x) : D M (tCB (rIsi K) (tCons te (tCons (tC (.ty "bool")) tNil))) σ I H dB x.isBool :=
  e_isi h (fun I H v r s => ty_W r s) (kitW (p := Wv.isBool) (by decide +kernel) (fun _ => rfl) (fun _ => rfl) (fun _ => rfl) x)
theorem e_isiWt (h : D M te σ I H dW x) : D M (tCB (rIsi K) (tCons te (tCons (tC (.ty "tuple")) tNil))) σ I H dB x.isTup :=
  e_isi h (fun I H v r s => ty_W r s) (kitW (p := Wv.isTup) (by decide +kernel) (fun _ => rfl) (fun _ => rfl) (fun _ => rfl) x)
end
theorem e_asW {te : TE} {i : Int} (h : D M te σ I H dI i) : D M te σ I H dW (.int i) := h
theorem e_ofW {te : TE} {i : Int} (h : D M te σ I H dW (.int i)) : D M te σ I H dI i := h
/-- another relation that follows -/
theorem D.mono {te : TE} {R : Rel α} {S : Rel β} {x : α} {y : β} (h : D M te σ I H R x) (hm : ∀ I v, R I v x → S I v y) : D M te σ I H S y := fun I1 H1 e c Q k => h I1 H1 e c _ fun v I2 H2 e2 c2 r => k v I2 H2 e2 c2 (hm I2 v r)
theorem paired_map {F : V → α → Prop} {G : V → β → Prop} {f : α → β} (hf : ∀ v x, F v x → G v (f x)) : ∀ {vs : List V} {xs : List α}, Paired F vs xs → Paired G vs (xs.map f)
  | _, _, .nil => .nil
  | _, _, .cons h t => .cons (hf _ _ h) (paired_map hf t)
theorem dT_map {R : Rel α} {S : Rel β} {f : α → β} (hf : ∀ I v x, R I v x → S I v (f x)) {I : Hp} {v : V} {xs : List α} (h : dT R I v xs) : dT S I v (xs.map f) := by
  obtain ⟨a, vs, e, h, p⟩ := h
  exact ⟨a, vs, e, h, paired_map (hf I) p⟩
/-! ### == of data -/
class Den {α : Type} (R : Rel α) (n : outParam Nat) where
  den : α → PyData
  dp : ∀ {K : PySem.W.Frag} {I H : Hp} {v : V} {x : α}, R I v x → Sub I H → Dp K H v (den x)
  cl : ∀ x, (den x).canLay0 = true
  dep : ∀ x, (den x).depth ≤ n
  inj : ∀ x y, PyData.eqv (den x) (den y) = true ↔ x = y
theorem Den.shaped {R : Rel α} {n : Nat} [d : Den R n] (hn : n ≤ 64) (x : α) : SeqAt.shaped (d.den x) = true := by
  unfold SeqAt.shaped
  rw [d.cl x, Bool.true_and]
  exact decide_eq_true (Nat.le_trans (d.dep x) hn)
instance : Den dI 0 := ⟨fun i => .int i, fun {K I H v x} r _ => by rw [show v = _ from r]; exact .int _, fun x => by simp [PyData.canLay0], fun x => by simp [PyData.depth], fun x y => by simp [PyData.eqv]⟩
instance : Den dB 0 := ⟨fun i => .bool i, fun {K I H v x} r _ => by rw [show v = _ from r]; exact .bl _, fun x => by simp [PyData.canLay0], fun x => by simp [PyData.depth], fun x y => by simp [PyData.eqv]⟩
theorem dpAll {R : Rel α} {n : Nat} [d : Den R n] {I H : Hp} (s : Sub I H) : ∀ {vs : List V} {xs : List α}, Paired (R I) vs xs → DpAll K H vs (xs.map d.den)
  | _, _, .nil => .nil
  | _, _, .cons h t => .cons (d.dp h s) (dpAll s t)
theorem clAll {R : Rel α} {n : Nat} [d : Den R n] : ∀ xs : List α, PyData.canLayAll0 (xs.map d.den) = true
  | [] => by simp [PyData.canLayAll0]
  | x :: xs => by simp [PyData.canLayAll0, d.cl x, clAll xs]
theorem depAll {R : Rel α} {n : Nat} [d : Den R n] : ∀ xs : List α, PyData.depthAll (xs.map d.den) ≤ n
  | [] => by simp [PyData.depthAll]
  | x :: xs => by
    simp only [List.map_cons, PyData.depthAll]
    exact Nat.max_le.mpr ⟨d.dep x, depAll xs⟩
theorem injAll {R : Rel α} {n : Nat} [d : Den R n] : ∀ xs ys : List α, PyData.eqvAll (xs.map d.den) (ys.map d.den) = true ↔ xs = ys
  | [], [] => by simp [PyData.eqvAll]
  | x :: xs, [] => by simp [PyData.eqvAll]
  | [], y :: ys => by simp [PyData.eqvAll]
  | x :: xs, y :: ys => by
    simp only [List.map_cons, PyData.eqvAll, Bool.and_eq_true, d.inj x y, injAll xs ys, List.cons.injEq]
instance {R : Rel α} {n : Nat} [d : Den R n] : Den (dT R) (n + 1) := ⟨fun xs => .tuple (xs.map d.den), fun {K I H v xs} r s => by
    obtain ⟨a, vs, e, h, p⟩ := r
    rw [e]; exact .tup (SqT.mk' (s _ _ h)) (dpAll s p), fun xs => by simp only [PyData.canLay0]; exact clAll xs, fun xs => by simp only [PyData.depth]; exact Nat.succ_le_succ (depAll xs), fun xs ys => by simp only [PyData.eqv]; exact injAll xs ys⟩
instance {R : Rel α} {n : Nat} [d : Den R n] : Den (dL R) (n + 1) := ⟨fun xs => .list (xs.map d.den), fun {K I H v xs} r s => by
    obtain ⟨a, vs, e, h, p⟩ := r
    rw [e]; exact .lst (SqL.mk' (s _ _ h)) (dpAll s p), fun xs => by simp only [PyData.canLay0]; exact clAll xs, fun xs => by simp only [PyData.depth]; exact Nat.succ_le_succ (depAll xs), fun xs ys => by simp only [PyData.eqv]; exact injAll xs ys⟩
instance {R : Rel α} {S : Rel β} {n m : Nat} [d : Den R n] [b : Den S m] : Den (dP R S) (max n m + 1) := ⟨fun p => .tuple [d.den p.1, b.den p.2], fun {K I H v p} r s => by
    obtain ⟨a, x, y, e, h, p, q⟩ := r
    rw [e]; exact .tup (SqT.mk' (s _ _ h)) (.cons (d.dp p s) (.cons (b.dp q s) .nil)), fun p => by simp [PyData.canLay0, PyData.canLayAll0, d.cl, b.cl], fun p => by
    simp only [PyData.depth, PyData.depthAll]
    have h1 := d.dep p.1
    have h2 := b.dep p.2
    omega, fun p q => by
    obtain ⟨x, y⟩ := p
    obtain ⟨z, w⟩ := q
    simp [PyData.eqv, PyData.eqvAll, d.inj, b.inj]⟩
section
variable {R : Rel α} {n : Nat} [d : Den R n] [DecidableEq α] {ta tb : TE} {a b : α}
theorem eqv_dec (a b : α) : PyData.eqv (d.den a) (d.den b) = decide (a = b) := by
  by_cases h : a = b
  · rw [decide_eq_true h]; exact (d.inj a b).mpr h
  · rw [decide_eq_false h]; exact Bool.eq_false_iff.mpr fun z => h ((d.inj a b).mp z)
theorem e_eqD [Mono R] (ha : D M ta σ I H R a) (hb : D M tb σ I H R b) (hn : n ≤ 64 := by decide) : D M (tOp (rEqD K) ta tb) σ I H dB (decide (a = b)) := fun I1 H1 e c Q k =>
  ha I1 H1 e c _ fun v I2 H2 e2 c2 r => hb I2 H2 (e.trans e2) c2 _ fun w I3 H3 e3 c3 q => ⟨d.den a, d.den b, d.dp (Mono.up r e3.ii) e3.si, d.dp q e3.si, Den.shaped (R := R) hn a, Den.shaped (R := R) hn b, k _ I3 H3 (e2.trans e3) c3 (by
    rw [eqv_dec]; rfl)⟩
theorem e_neD [Mono R] (ha : D M ta σ I H R a) (hb : D M tb σ I H R b) (hn : n ≤ 64 := by decide) : D M (tOp (rNeD K) ta tb) σ I H dB (!decide (a = b)) := fun I1 H1 e c Q k =>
  ha I1 H1 e c _ fun v I2 H2 e2 c2 r => hb I2 H2 (e.trans e2) c2 _ fun w I3 H3 e3 c3 q => ⟨d.den a, d.den b, d.dp (Mono.up r e3.ii) e3.si, d.dp q e3.si, Den.shaped (R := R) hn a, Den.shaped (R := R) hn b, k _ I3 H3 (e2.trans e3) c3 (by
    rw [eqv_dec]; rfl)⟩
end
theorem e_ltT {ta tb : TE} {xs ys : List Int} (ha : D M ta σ I H (dT dI) xs) (hb : D M tb σ I H (dT dI) ys) : D M (tOp (rLtT K) ta tb) σ I H dB (HT.lexLt xs ys) := fun I1 H1 e c Q k =>
  ha I1 H1 e c _ fun v I2 H2 e2 c2 ⟨a, vs, ev, h, p⟩ => hb I2 H2 (e.trans e2) c2 _ fun w I3 H3 e3 c3 ⟨b, ws, ew, h', p'⟩ =>
    ⟨a, b, xs, ys, ev, ew, SqT.mk' (by rw [← paired_ints p]; exact e3.si _ _ (e3.ii _ _ h)), SqT.mk' (by rw [← paired_ints p']; exact e3.si _ _ h'), k _ I3 H3 (e2.trans e3) c3 rfl⟩
end
end DL

/-! defs that may be called by name -/
namespace DL
open PySem PySem.Spec PyProof.Rows L2 RZ
section
variable {P : Program} {w : World} {K : PySem.W.Frag} {mg : Str → Option Value} {base : Heap}
/-- a def called by its name, no exception leaves it -/
structure Cal (P : Program) (w : World) (K : PySem.W.Frag) (mg : Str → Option Value) (base : Heap) (k : Nat) (x : Str) (sp : Sp) : Prop where
  ex : ∃ (f : Addr) (fd : FuncData) (ps : List Str), FnOk P w K mg base L2.CX0 k f fd ps sp ∧ mg x = some (.ref f) ∧ PySem.W.keepIn K (.ref f) = true ∧ Binds K fd ps []
/-- a def of the module as the text has it -/
structure Df (K : PySem.W.Frag) (mg : Str → Option Value) (x : Str) (st : Stmt) (ps : List Str) (f : Addr) (fd : FuncData) : Prop where
  fn : L2.Fun K x x st f fd
  mgf : mg x = some (.ref f)
  bs : Binds K fd ps []
theorem Cal.of {x : Str} {st : Stmt} {f : Addr} {fd : FuncData} {ps : List Str} {k : Nat} {sp : Sp} (F : Df K mg x st ps f fd) (h : FnOk P w K mg base L2.CX0 k f fd ps sp) : Cal P w K mg base k x sp := ⟨f, fd, ps, h, F.mgf, F.fn.kp, F.bs⟩
theorem Cal.imp {x : Str} {k : Nat} {sp sp' : Sp} (c : Cal P w K mg base k x sp) (h : ∀ vs H Q E, sp' vs H Q E → sp vs H Q E) : Cal P w K mg base k x sp' := by
  obtain ⟨f, fd, ps, F, r⟩ := c.ex
  exact ⟨f, fd, ps, F.imp h, r⟩
/-- .. an exception may leave it -/
structure CalX (P : Program) (w : World) (K : PySem.W.Frag) (mg : Str → Option Value) (base : Heap) (k : Nat) (x : Str) (sp : Sp) : Prop where
  ex : ∃ (f : Addr) (fd : FuncData) (ps : List Str), FnOk P w K mg base (L2.CX P w) k f fd ps sp ∧ mg x = some (.ref f) ∧ PySem.W.keepIn K (.ref f) = true ∧ Binds K fd ps []
theorem CalX.of {x : Str} {st : Stmt} {f : Addr} {fd : FuncData} {ps : List Str} {k : Nat} {sp : Sp} (F : Df K mg x st ps f fd) (h : FnOk P w K mg base (L2.CX P w) k f fd ps sp) : CalX P w K mg base k x sp := ⟨f, fd, ps, h, F.mgf, F.fn.kp, F.bs⟩
end
section
variable {X : Cx} {k j : Nat} {x : Str} {sp : Sp} {p pos : Pos} {e : Expr} {es : List Expr} {t : TA}
theorem pe_c (c : Cal X.prog X.w X.K X.mg X.base k x sp) (hr : Room j X.A) (hk : k ≤ j) (hg : Gl X x) (ha : PA X (e :: es) t)
    (hdb : (x == ("__debug__" : Str)) = false := by decide) (he : starEach (e :: es) X.env = (false, eval e X.env) :: starEach es X.env := by rfl) (hpl : (backTo pos (starEach es X.env)).any (·.1) = false := by rfl) :
    PE X (.Call (.Name x p) (e :: es) [] pos) (tCall sp [] L2.E0 t) := by
  obtain ⟨f, fd, ps, F, hm, kp, b⟩ := c.ex
  exact pe_call F (hr.mono hk) hg hm kp b .nil L2.pass0 ha hdb he hpl
end
end DL

/-! statements over cells -/
namespace DL
open PySem PySem.Spec PyProof.Rows L2 RZ
section
variable {X : Cx}
def rGetL : V → V → Hp → VK → Prop := fun x y H Q => ∃ p xs i v, x = .ref p ∧ y = .int i ∧ H p = some (.lst xs) ∧ 0 ≤ i ∧ xs[i.toNat]? = some v ∧ Q v H
theorem get_list : PGet X rGetL := by
  intro pins s σ H o i ov iv Q I ro ri h
  obtain ⟨p, xs, k, z, rfl, rfl, hq, h0, he, q⟩ := h
  cases ro
  obtain ⟨t, rfl⟩ := ri
  obtain ⟨its, r, pl, hz⟩ := I.list (SqL.mk' (K := X.K) hq)
  obtain ⟨w, ew, rw'⟩ := r.get he
  have hl := r.length
  have hn := line63
  have hlt : k.toNat < its.length := (List.getElem?_eq_some_iff.mp ew).1
  exact wpAny_getItem_list pl.isList h0 (by omega) (by simpa using ew) ⟨z, H, I, rw', q⟩
end
section
variable {α β γ : Type} {M : Mode} {σ : L2.St} {I H : Hp} {K : PySem.W.Frag}
theorem s_asgG {te : TE} {g : TG} {E : Ends} {S : Rel α} {Γ : L2.St → α → Hp → L2.St → Prop} {x : α} (d : D M te σ I H S x) (hg : Bind g S Γ) (s : Sub I H) (c : M.C I H)
    (k : ∀ σ2 I1 H1, Ex M.m I H I1 H1 → M.C I1 H1 → Γ σ x I1 σ2 → E.nx σ2 H1) : tAsg te g E σ H :=
  d.use s c fun v I1 H1 e c1 r => hg σ I1 H1 v x e.si r _ fun σ2 hσ => k σ2 I1 H1 e c1 hσ
theorem n_asg {te : TE} {i : Nat} {E : Ends} {R : Rel α} {P : α → Prop} (d : N M te σ I H R P) (s : Sub I H) (c : M.C I H) (k : ∀ v x I1 H1, Ex M.m I H I1 H1 → M.C I1 H1 → R I1 v x → P x → E.nx (σ.set i (some v)) H1) : tAsg te (gName i) E σ H := d.use s c k
theorem Sub.cell {I H : Hp} {a : Addr} {o : HO} (s : Sub I H) (hI : I a = none) : Sub I (upd H a o) := fun b u e => by
  by_cases hb : b = a
  · subst hb; rw [hI] at e; cases e
  · rw [upd_ne hb]; exact s _ _ e
theorem tyV_list {a : Addr} {xs : List V} {H : Hp} (h : H a = some (.lst xs)) : tyV K "list" (.ref a) H := .inl ⟨rfl, xs, .inl (.inl h)⟩
/-- xs.append(e) -/
theorem s_append {te : TE} {i : Nat} {E : Ends} {R : Rel α} {x : α} {a : Addr} {xs : List V} (hi : σ[i]? = some (some (.ref a))) (ha : H a = some (.lst xs)) (hI : I a = none) (hm : ¬ M.s a) (d : D M te σ I H R x) (s : Sub I H) (c : M.C I H)
    (hz : xs.length < sizeLine) (k : ∀ v I1 H1, Ex M.m I H I1 H1 → M.C I1 H1 → H1 a = some (.lst xs) → I1 a = none → R I1 v x → E.nx σ (upd H1 a (.lst (xs ++ [v])))) :
    tDrop (tBM K "list" rAppend (tVar i) (tCons te tNil)) E σ H :=
  ⟨.ref a, hi, tyV_list ha, d.use s c fun v I1 H1 e c1 r => ⟨a, xs, v, rfl, rfl, e.kp _ _ (fun z => hm (M.ms _ z)) ha, hz, k v I1 H1 e c1 (e.kp _ _ (fun z => hm (M.ms _ z)) ha) (e.out hI (by rw [ha]; simp)) r⟩⟩
/-- xs.extend(e), e a list -/
theorem s_extend {te : TE} {i : Nat} {E : Ends} {R : Rel α} {x : List α} {a : Addr} {xs : List V} (hi : σ[i]? = some (some (.ref a))) (ha : H a = some (.lst xs)) (hI : I a = none) (hm : ¬ M.s a) (d : D M te σ I H (dL R) x) (s : Sub I H) (c : M.C I H)
    (hz : xs.length + x.length ≤ sizeLine) (k : ∀ vs I1 H1, Ex M.m I H I1 H1 → M.C I1 H1 → H1 a = some (.lst xs) → I1 a = none → Paired (R I1) vs x → E.nx σ (upd H1 a (.lst (xs ++ vs)))) :
    tDrop (tBM K "list" rExtend (tVar i) (tCons te tNil)) E σ H :=
  ⟨.ref a, hi, tyV_list ha, d.use s c fun v I1 H1 e c1 ⟨b, zs, ev, hb, p⟩ => ⟨a, b, xs, zs, rfl, by rw [ev], e.kp _ _ (fun z => hm (M.ms _ z)) ha, e.si _ _ hb, by rw [Paired.length p]; exact hz,
    k zs I1 H1 e c1 (e.kp _ _ (fun z => hm (M.ms _ z)) ha) (e.out hI (by rw [ha]; simp)) p⟩⟩
/-- xs[i] += e, over a list of ints -/
theorem s_augL {te ti : TE} {i : Nat} {E : Ends} {x n : Int} {a : Addr} {xs : List Int} {f : Int → Int → Int} (hi : σ[i]? = some (some (.ref a))) (ha : H a = some (.lst (xs.map V.int))) (hI : I a = none) (hm : ¬ M.s a) (dn : D M ti σ I H dI n) (d : D M te σ I H dI x) (s : Sub I H) (c : M.C I H)
    (h0 : 0 ≤ n) (h1 : n < xs.length) (k : ∀ I1 H1, Ex M.m I H I1 H1 → M.C I1 H1 → H1 a = some (.lst (xs.map V.int)) → I1 a = none → E.nx σ (upd H1 a (.lst ((xs.set n.toNat (f (xs.getD n.toNat 0) x)).map V.int)))) :
    tAugS (tVar i) ti te rGetL (ipI f) rSetL E σ H :=
  ⟨.ref a, hi, dn.use s c fun v I1 H1 e c1 r => by
    have hlt : n.toNat < xs.length := by omega
    have ha1 : H1 a = some (.lst (xs.map V.int)) := e.kp _ _ (fun z => hm (M.ms _ z)) ha
    refine ⟨a, xs.map V.int, n, .int (xs.getD n.toNat 0), rfl, r, ha1, h0, by rw [List.getElem?_map, List.getElem?_eq_getElem hlt, List.getD_eq_getElem?_getD, List.getElem?_eq_getElem hlt]; rfl, ?_⟩
    refine d I1 H1 e c1 _ fun w I2 H2 e2 c2 r2 => ?_
    have ha2 : H2 a = some (.lst (xs.map V.int)) := e2.kp _ _ (fun z => hm (M.ms _ z)) ha1
    refine ⟨xs.getD n.toNat 0, x, rfl, r2, a, xs.map V.int, n, n.toNat, rfl, r, ha2, ?_, ?_⟩
    · rw [List.length_map]
      unfold ixN
      rw [if_pos h0, if_pos h1]
    · have q := k I2 H2 (e.trans e2) c2 ha2 ((e.trans e2).out hI (by rw [ha]; simp))
      rw [List.map_set] at q
      exact q⟩
/-- .. = .. over names at once -/
theorem s_par {ta tb : TE} {i j : Nat} {E : Ends} {R : Rel α} {S : Rel β} [Mono R] {x : α} {y : β} (dx : D M ta σ I H R x) (dy : D M tb σ I H S y) (s : Sub I H) (c : M.C I H)
    (k : ∀ v w I1 H1, Ex M.m I H I1 H1 → M.C I1 H1 → R I1 v x → S I1 w y → E.nx ((σ.set i (some v)).set j (some w)) H1) : tPar i j (tCons ta (tCons tb tNil)) E σ H :=
  dx.use s c fun v I1 H1 e c1 r => dy I1 H1 e c1 _ fun w I2 H2 e2 c2 r2 => ⟨v, w, rfl, k v w I2 H2 (e.trans e2) c2 (Mono.up r e2.ii) r2⟩
/-- a call that gives nothing, or a value left alone -/
theorem s_drop {te : TE} {E : Ends} {R : Rel α} {x : α} (d : D M te σ I H R x) (s : Sub I H) (c : M.C I H) (k : ∀ I1 H1, Ex M.m I H I1 H1 → M.C I1 H1 → E.nx σ H1) : tDrop te E σ H := d.use s c fun v I1 H1 e c1 _ => k I1 H1 e c1
/-- i op= e over ints -/
theorem s_augI {te : TE} {i : Nat} {E : Ends} {x y : Int} {v : V} {f : Int → Int → Int} (hi : σ[i]? = some (some v)) (hv : dI I v x) (d : D M te σ I H dI y) (s : Sub I H) (c : M.C I H)
    (k : ∀ I1 H1, Ex M.m I H I1 H1 → M.C I1 H1 → E.nx (σ.set i (some (.int (f x y)))) H1) : tAug i te (ipI f) E σ H :=
  ⟨v, hi, d.use s c fun w I1 H1 e c1 r => ⟨x, y, hv, r, k I1 H1 e c1⟩⟩
theorem snoc_ind {α : Type} {P : List α → Prop} (h0 : P []) (h1 : ∀ xs x, P xs → P (xs ++ [x])) (xs : List α) : P xs := by
  have key : ∀ (n : Nat) (xs : List α), xs.length = n → P xs := fun n => by
    induction n with
    | zero => intro xs h; rw [List.eq_nil_of_length_eq_zero h]; exact h0
    | succ n ih =>
      intro xs h
      have hne : xs ≠ [] := fun z => by rw [z] at h; cases h
      rw [← List.dropLast_concat_getLast hne]
      exact h1 _ _ (ih _ (by rw [List.length_dropLast, h]; rfl))
  exact key _ xs rfl
/-! ### fresh lists: cells -/
def DF (M : Mode) (te : TE) (σ : L2.St) (I H : Hp) (R : Rel α) (xs : List α) : Prop :=
  ∀ I1 H1, Ex M.m I H I1 H1 → M.C I1 H1 → ∀ Q : VK, (∀ p vs I2 H2, Ex M.m I1 H1 I2 H2 → M.C I2 H2 → H1 p = none → I2 p = none → H2 p = some (.lst vs) → Paired (R I2) vs xs → Q (.ref p) H2) → te σ H1 Q
theorem f_new {R : Rel α} {xs : List α} {I1 H1 I2 H2 : Hp} {vs : List V} {p : Addr} {Q : VK} (e : Ex M.m I1 H1 I2 H2) (c : M.C I2 H2) (hp : H2 p = none) (r : Paired (R I2) vs xs)
    (k : ∀ p vs I2 H2, Ex M.m I1 H1 I2 H2 → M.C I2 H2 → H1 p = none → I2 p = none → H2 p = some (.lst vs) → Paired (R I2) vs xs → Q (.ref p) H2) : Q (.ref p) (upd H2 p (.lst vs)) :=
  k p vs I2 _ (e.trans (Ex.cell e.si hp)) (M.put c (M.fresh c hp)) (by
    cases h : H1 p with
    | none => rfl
    | some o => exact absurd hp (e.dm p (by rw [h]; simp))) (e.si.nn hp) upd_same r
theorem f_lst {R : Rel α} {ta : TA} {xs : List α} (h : DA M ta σ I H (aAll R) xs) (hz : xs.length ≤ sizeLine := by simp [sizeLine_eq]) : DF M (tLst ta) σ I H R xs := fun I1 H1 e c Q k =>
  h I1 H1 e c _ fun vs I2 H2 e2 c2 r => ⟨by rw [Paired.length r]; exact hz, fun p hp => f_new e2 c2 hp r k⟩
theorem f_repL {R : Rel α} [Mono R] {ta tb : TE} {xs : List α} {n : Int} (ha : D M ta σ I H (dL R) xs) (hb : D M tb σ I H dI n) (h1 : -(2 ^ 63) ≤ n) (h2 : n < 2 ^ 63) (hz : xs.length * n.toNat ≤ sizeLine) :
    DF M (tOp rRep ta tb) σ I H R (List.replicate n.toNat xs).flatten := fun I1 H1 e c Q k =>
  ha I1 H1 e c _ fun v I2 H2 e2 c2 ⟨a, vs, ev, h, p⟩ => hb I2 H2 (e.trans e2) c2 _ fun w I3 H3 e3 c3 q =>
    ⟨a, n, vs, ev, q, e3.si _ _ (e3.ii _ _ h), h1, h2, by rw [Paired.length p]; exact hz, fun q hq => f_new (e2.trans e3) c3 hq (paired_rep (paired_up p e3.ii) _) k⟩
theorem f_catL {R : Rel α} [Mono R] {ta tb : TE} {xs ys : List α} (ha : D M ta σ I H (dL R) xs) (hb : D M tb σ I H (dL R) ys) (hz : xs.length + ys.length ≤ sizeLine) : DF M (tOp rCat ta tb) σ I H R (xs ++ ys) := fun I1 H1 e c Q k =>
  ha I1 H1 e c _ fun v I2 H2 e2 c2 ⟨a, vs, ev, h, p⟩ => hb I2 H2 (e.trans e2) c2 _ fun w I3 H3 e3 c3 ⟨b, ws, ew, h', p'⟩ =>
    ⟨a, b, vs, ws, ev, ew, e3.si _ _ (e3.ii _ _ h), e3.si _ _ h', by rw [Paired.length p, Paired.length p']; exact hz, fun q hq => f_new (e2.trans e3) c3 hq (paired_app (paired_up p e3.ii) p') k⟩
theorem f_listT {R : Rel α} [Mono R] {ta : TE} {xs : List α} (ha : D M ta σ I H (dT R) xs) : DF M (tCB (fun xs H Q => ∃ p ys, xs = [.ref p] ∧ (SqL K H p ys ∨ SqT K H p ys) ∧ ∀ l, H l = none → Q (.ref l) (upd H l (.lst ys))) (tCons ta tNil)) σ I H R xs := fun I1 H1 e c Q k =>
  ha I1 H1 e c _ fun v I2 H2 e2 c2 ⟨a, vs, ev, h, p⟩ => ⟨a, vs, by rw [ev], .inr (SqT.mk' (e2.si _ _ h)), fun q hq => f_new e2 c2 hq p k⟩
theorem f_listL {R : Rel α} [Mono R] {ta : TE} {xs : List α} (ha : D M ta σ I H (dL R) xs) : DF M (tCB (fun xs H Q => ∃ p ys, xs = [.ref p] ∧ (SqL K H p ys ∨ SqT K H p ys) ∧ ∀ l, H l = none → Q (.ref l) (upd H l (.lst ys))) (tCons ta tNil)) σ I H R xs := fun I1 H1 e c Q k =>
  ha I1 H1 e c _ fun v I2 H2 e2 c2 ⟨a, vs, ev, h, p⟩ => ⟨a, vs, by rw [ev], .inl (SqL.mk' (e2.si _ _ h)), fun q hq => f_new e2 c2 hq p k⟩
theorem s_asgF {te : TE} {i : Nat} {E : Ends} {R : Rel α} {xs : List α} (d : DF M te σ I H R xs) (s : Sub I H) (c : M.C I H)
    (k : ∀ p vs I1 H1, Ex M.m I H I1 H1 → M.C I1 H1 → H p = none → I1 p = none → H1 p = some (.lst vs) → Paired (R I1) vs xs → E.nx (σ.set i (some (.ref p))) H1) : tAsg te (gName i) E σ H := d I H (Ex.refl s) c _ k
theorem Sub.fz {I H : Hp} {a : Addr} {o : HO} (s : Sub I H) (h : H a = some o) (hI : I a = none) : Sub (upd I a o) H := fun b u e => by
  by_cases hb : b = a
  · subst hb; rw [upd_same] at e; rw [h]; exact e
  · rw [upd_ne hb] at e; exact s _ _ e
end
end DL

/-! defs that raise -/
namespace DL
open PySem PySem.Spec PyProof.Rows L2 RZ
section
variable {X : Cx} {C : Addr} {B newId initId : String} {bmB : List Value}
/-- X() -/
theorem pmk_own0 {x : Str} {p pos : Pos} (F : ExcBaseFacts B newId initId bmB) (q : PySem.W.excIn X.K C bmB newId = true) (gC : X.mg x = some (.ref C)) (kC : PySem.W.keepIn X.K (.ref C) = true) (r : Raises X (.ref C)) (hg : Gl X x)
    (hdb : (x == ("__debug__" : Str)) = false := by decide) : PMk X (.Call (.Name x p) [] [] pos) (fun _ H Q => Q (.ref C) none H) := by
  intro pins s σ H Q I h
  refine wpAny_Call_Name_kw (ld_glob (x := x) I hg gC ?_ hdb)
  refine PySem.W.callWith_K0 I.kIn kC ?_
  show wpAny _ _ (call (.ref C) []) _ _ _
  obtain ⟨bm, N, nm, qn, bs, hdct, sn, sub, ab, col, dd, k0, k1, k2, k3, k5, mN, hC, hN, hni, T⟩ := exc_obj I.kIn q
  refine wpAny_call_exc_subT F T hC hN hni (fun h' e hm => ?_) (Nat.zero_le _)
  exact mk_of I hm r h (I.hok.gone hm.new)
end
/-- an own exception class without own __init__ -/
structure Exc0 (K : PySem.W.Frag) (mg : Str → Option Value) (x : Str) (C : Addr) : Prop where
  gC : mg x = some (.ref C)
  kC : PySem.W.keepIn K (.ref C) = true
  q : ∃ (B newId initId : String) (bmB : List Value), ExcBaseFacts B newId initId bmB ∧ PySem.W.excIn K C bmB newId = true
  sub : PySem.W.subIn K (.ref C) (.type "BaseException") = some true
  ty : PySem.W.typeIn K (.ref C) = some (.type "type")
section
variable {X : Cx} {C : Addr} {x : Str} {p pos : Pos} {W : WX}
/-- raise X() -/
theorem ps_raise0 (e : Exc0 X.K X.mg x C) (hc : X.calm = true) (tk : Takes X W) (hg : Gl X x) (hdb : (x == ("__debug__" : Str)) = false := by decide) {pos' : Pos} :
    PS X (.Raise (some (.Call (.Name x p) [] [] pos)) none pos') (fun _ σ H => W (.ref C) none σ H) := by
  obtain ⟨B, newId, initId, bmB, F, q⟩ := e.q
  exact ps_raise hc tk (pmk_own0 F q e.gC e.kC (raises_own e.sub e.ty) hg hdb)
end
abbrev wE (E : XK) : WX := fun cls d _ H => E cls d H
section
variable {P : Program} {w : World} {K : PySem.W.Frag} {mg : Str → Option Value} {base : Heap} {N : List Str} {qual : Str} {scope : Scope} {f : Addr} {cd : Value} {A : Around} {outer : List Env} {s : Shared} {H : Hp} {E : XK}
theorem tk_of : Takes (cxOf (L2.CX P w) P w K mg base N qual scope f cd A outer s H E) (wE E) := takes_of rfl rfl rfl rfl
end
section
variable {X : Cx} {k j : Nat} {x : Str} {sp : Sp} {p pos : Pos} {e : Expr} {es : List Expr} {t : TA} {W : WX}
theorem pe_cx (c : CalX X.prog X.w X.K X.mg X.base k x sp) (tk : Takes X W) (hr : Room j X.A) (hk : k ≤ j) (hg : Gl X x) (ha : PA X (e :: es) t)
    (hdb : (x == ("__debug__" : Str)) = false := by decide) (he : starEach (e :: es) X.env = (false, eval e X.env) :: starEach es X.env := by rfl) (hpl : (backTo pos (starEach es X.env)).any (·.1) = false := by rfl) :
    PE X (.Call (.Name x p) (e :: es) [] pos) (tCallS sp (WE W) t) := by
  obtain ⟨f, fd, ps, F, hm, kp, b⟩ := c.ex
  exact pe_callS F (hr.mono hk) hg hm kp b (fun σ => passAt tk σ) ha hdb he hpl
end
section
variable {α β : Type} {M : Mode} {σ : L2.St} {I H : Hp}
/-- the promise of a def that gives f of its arguments where ok, else raises an exception of a class -/
def spX (A : Hp → List V → α → Prop) (pre : α → Prop) (ok : α → Bool) (cls : α → Value) (R : Rel β) (f : α → β) : Sp := fun vs H Q E => ∃ I x, Sub I H ∧ A I vs x ∧ pre x ∧
  (ok x = true → ∀ v I' H', Ex0 I H I' H' → R I' v (f x) → Q v H') ∧ (ok x = false → ∀ I' H', Ex0 I H I' H' → E (cls x) none H')
variable {A : Hp → List V → α → Prop} {pre : α → Prop} {ok : α → Bool} {cls : α → Value} {R : Rel β} {f : α → β} {ta : TA} {x : α} {E : L2.St → XK}
theorem e_callX (ha : DA M ta σ I H A x) (hp : pre x) (hok : ok x = true) : D M (tCallS (spX A pre ok cls R f) E ta) σ I H R (f x) := fun I1 H1 e c Q k =>
  ha I1 H1 e c _ fun vs I2 H2 e2 c2 q => ⟨I2, x, e2.si, q, hp, fun _ v I' H' e3 r => k v I' H' (e2.trans e3.of0) (M.st e3 c2) r, fun z => by rw [hok] at z; cases z⟩
theorem x_call (ha : DA M ta σ I H A x) (hp : pre x) (hok : ok x = false) (s : Sub I H) (c : M.C I H) {Q : VK} (k : ∀ I1 H1, Ex M.m I H I1 H1 → M.C I1 H1 → E σ (cls x) none H1) : tCallS (spX A pre ok cls R f) E ta σ H Q :=
  ha I H (Ex.refl s) c _ fun vs I2 H2 e2 c2 q => ⟨I2, x, e2.si, q, hp, fun z => absurd z (by rw [hok]; exact Bool.false_ne_true), fun _ I' H' e3 => k I' H' (e2.trans e3.of0) (M.st e3 c2)⟩
end
end DL

/-! the hand of a law: [cells, place, left, mix, count] -/
namespace DL
open PySem PySem.Spec PyProof.Rows L2 RZ
structure Hand where
  i : Int
  left : Int
  mix : Int
  cnt : Int
  cells : List Int
def Hand.vs (c : Addr) (h : Hand) : List V := [.ref c, .int h.i, .int h.left, .int h.mix, .int h.cnt]
def HC (hp c : Addr) (h : Hand) (I H : Hp) : Prop := H hp = some (.lst (h.vs c)) ∧ I hp = none ∧ H c = some (.lst (h.cells.map V.int)) ∧ hp ≠ c
theorem HC.st {hp c : Addr} {h : Hand} {I H I' H' : Hp} (x : HC hp c h I H) (k : ∀ b o, (b = hp ∨ b = c) → H b = some o → H' b = some o) (n : ∀ b, (b = hp ∨ b = c) → I b = none → I' b = none) : HC hp c h I' H' :=
  ⟨k _ _ (.inl rfl) x.1, n _ (.inl rfl) x.2.1, k _ _ (.inr rfl) x.2.2.1, x.2.2.2⟩
theorem HC.dm {hp c : Addr} {h : Hand} {I H : Hp} (x : HC hp c h I H) {b : Addr} (hb : b = hp ∨ b = c) : H b ≠ none := by
  rcases hb with e | e
  · rw [e, x.1]; simp
  · rw [e, x.2.2.1]; simp
/-- the hand as it stands, nothing changes -/
def HF (hp c : Addr) (h : Hand) : Mode := ⟨no, fun b => b = hp ∨ b = c, HC hp c h, fun _ z => z.elim, fun x hb => x.dm hb, fun x k n => x.st k n⟩
/-- a hand that may be drawn from -/
def HM (hp c : Addr) : Mode := ⟨fun b => b = hp, fun b => b = hp ∨ b = c, fun I H => ∃ h : Hand, 0 ≤ h.i ∧ HC hp c h I H, fun _ z => .inl z, fun ⟨_, _, x⟩ hb => x.dm hb, fun ⟨h, h0, x⟩ k n => ⟨h, h0, x.st k n⟩⟩
section
variable {α β : Type} {σ : L2.St} {I H : Hp} {K : PySem.W.Frag} {hp c : Addr} {h : Hand}
theorem e_hand {j : Nat} {k x : Int} (hj : σ[j]? = some (some (.ref hp))) (hk : atI (h.vs c) k = some (.int x)) : D (HF hp c h) (tOp (rIxL K) (tVar j) (tC (.int k))) σ I H dI x := fun I1 H1 e cc Q q =>
  ⟨.ref hp, hj, hp, h.vs c, k, .int x, rfl, rfl, SqL.mk' cc.1, hk, q _ I1 H1 (Ex.refl e.si) cc rfl⟩
theorem e_hlen {j : Nat} (hj : σ[j]? = some (some (.ref hp))) : D (HF hp c h) (tCB (fun xs H Q => ∃ p ys, xs = [.ref p] ∧ (SqL K H p ys ∨ SqT K H p ys) ∧ Q (.int ys.length) H) (tCons (tOp (rIxL K) (tVar j) (tC (.int 0))) tNil)) σ I H dI h.cells.length := fun I1 H1 e cc Q q =>
  ⟨.ref hp, hj, hp, h.vs c, 0, .ref c, rfl, rfl, SqL.mk' cc.1, rfl, c, h.cells.map V.int, rfl, .inl (SqL.mk' cc.2.2.1), q _ I1 H1 (Ex.refl e.si) cc (by rw [List.length_map]; rfl)⟩
theorem e_hcell {j : Nat} {te : TE} {n x : Int} (hj : σ[j]? = some (some (.ref hp))) (d : D (HF hp c h) te σ I H dI n) (hx : atI h.cells n = some x) : D (HF hp c h) (tOp (rIxL K) (tOp (rIxL K) (tVar j) (tC (.int 0))) te) σ I H dI x := fun I1 H1 e cc Q q =>
  ⟨.ref hp, hj, hp, h.vs c, 0, .ref c, rfl, rfl, SqL.mk' cc.1, rfl, d I1 H1 e cc _ fun v I2 H2 e2 c2 r => by
    have hx2 : atI (h.cells.map V.int) n = some (.int x) := by
      unfold atI at hx ⊢
      rw [List.length_map]
      cases e : ixN h.cells.length n with
      | none => rw [e] at hx; cases hx
      | some m =>
        rw [e] at hx
        show (h.cells.map V.int)[m]? = _
        rw [List.getElem?_map, show h.cells[m]? = some x from hx]; rfl
    exact ⟨c, h.cells.map V.int, n, .int x, rfl, r, SqL.mk' c2.2.2.1, hx2, q _ I2 H2 e2 c2 rfl⟩⟩
/-- hand[k] = e -/
theorem s_hset {j : Nat} {te : TE} {k x : Int} {E : Ends} {h' : Hand} (hj : σ[j]? = some (some (.ref hp))) (d : D (HF hp c h) te σ I H dI x) (s : Sub I H) (cc : HC hp c h I H) {m : Nat} (hm : ixN 5 k = some m) (hv : (h.vs c).set m (.int x) = h'.vs c) (hc : h'.cells = h.cells)
    (q : ∀ J G, Ex (HM hp c).m I H J G → HC hp c h' J G → Sub J G → E.nx σ G) : tAsg te (gSub (tVar j) (tC (.int k)) rSetL) E σ H :=
  d.use s cc fun v J G e c1 r => ⟨.ref hp, hj, hp, h.vs c, k, m, rfl, rfl, c1.1, hm, by
    have e1 : Ex (HM hp c).m I H J G := ⟨e.si, e.ii, fun b o _ z => e.kp b o (fun z => z) z, e.dm, e.fr⟩
    have e2 := e1.put (p := hp) (o := .lst ((h.vs c).set m v)) (.inl rfl) c1.2.1
    refine q _ _ e2 ⟨?_, c1.2.1, ?_, c1.2.2.2⟩ e2.si
    · rw [upd_same, show v = _ from r, hv]
    · rw [upd_ne (Ne.symm c1.2.2.2), hc]; exact c1.2.2.1⟩
/-- the promise of a def whose first argument is the hand -/
def spH (A : Hp → List V → α → Prop) (pre : α → Prop) (R : Rel β) (P : α → β → Prop) : Sp := fun vs H Q _ => ∃ hp c r I x, vs = .ref hp :: r ∧ Sub I H ∧ (HM hp c).C I H ∧ A I r x ∧ pre x ∧
  ∀ v y I' H', Ex (HM hp c).m I H I' H' → (HM hp c).C I' H' → R I' v y → P x y → Q v H'
theorem n_callH {A : Hp → List V → α → Prop} {pre : α → Prop} {R : Rel β} {P : α → β → Prop} {ta : TA} {x : α} {E : XK} {j : Nat} (hj : σ[j]? = some (some (.ref hp))) (ha : DA (HM hp c) ta σ I H A x) (hx : pre x) :
    N (HM hp c) (tCall (spH A pre R P) [] E (tCons (tVar j) ta)) σ I H R (P x) := fun I1 H1 e cc Q k =>
  ⟨.ref hp, hj, ha I1 H1 e cc _ fun vs I2 H2 e2 c2 q => ⟨hp, c, vs, I2, x, by rw [List.append_nil], e2.si, c2, q, hx, fun v y I' H' e3 c3 r p => k v y I' H' (e2.trans e3) c3 r p⟩⟩
end
end DL

/-! expressions that give some data of which something holds -/
namespace DL
open PySem PySem.Spec PyProof.Rows L2 RZ
section
variable {α β γ : Type} {M : Mode} {σ : L2.St} {I H : Hp} {K : PySem.W.Frag}
theorem N.mono {te : TE} {R : Rel α} {S : Rel β} {P : α → Prop} {P' : β → Prop} (h : N M te σ I H R P) (hm : ∀ I v x, R I v x → P x → ∃ y, S I v y ∧ P' y) : N M te σ I H S P' := fun I1 H1 e c Q k =>
  h I1 H1 e c _ fun v x I2 H2 e2 c2 r p => by
    obtain ⟨y, s, q⟩ := hm I2 v x r p
    exact k v y I2 H2 e2 c2 s q
theorem N.imp {te : TE} {R : Rel α} {P P' : α → Prop} (h : N M te σ I H R P) (hm : ∀ x, P x → P' x) : N M te σ I H R P' := h.mono fun I v x r p => ⟨x, r, hm x p⟩
theorem N.at {te : TE} {R : Rel α} {P : α → Prop} (d : N M te σ I H R P) {I1 H1 : Hp} (e : Ex M.m I H I1 H1) : N M te σ I1 H1 R P := fun I2 H2 e2 c Q k => d I2 H2 (e.trans e2) c Q k
/-- a value that stands -/
theorem e_c {R : Rel α} [Mono R] {v : V} {x : α} (r : R I v x) : D M (tC v) σ I H R x := fun I1 H1 e c Q k => k v I1 H1 (Ex.refl e.si) c (Mono.up r e.ii)
def dV : Rel V := fun _ v x => v = x
instance : Mono dV := ⟨fun h _ => h⟩
theorem e_V {te : TE} {i : Int} (h : D M te σ I H dI i) : D M te σ I H dV (.int i) := h.mono fun I v r => r
/-! arguments -/
def NA (M : Mode) (ta : TA) (σ : L2.St) (I H : Hp) (A : Hp → List V → α → Prop) (P : α → Prop) : Prop :=
  ∀ I1 H1, Ex M.m I H I1 H1 → M.C I1 H1 → ∀ Q : List V → Hp → Prop, (∀ vs x I2 H2, Ex M.m I1 H1 I2 H2 → M.C I2 H2 → A I2 vs x → P x → Q vs H2) → ta σ H1 Q
theorem DA.n {A : Hp → List V → α → Prop} {ta : TA} {x : α} (h : DA M ta σ I H A x) : NA M ta σ I H A (fun y => y = x) := fun I1 H1 e c Q k => h I1 H1 e c _ fun vs I2 H2 e2 c2 a => k vs x I2 H2 e2 c2 a rfl
theorem NA.imp {A : Hp → List V → α → Prop} {ta : TA} {P P' : α → Prop} (h : NA M ta σ I H A P) (hm : ∀ x, P x → P' x) : NA M ta σ I H A P' := fun I1 H1 e c Q k => h I1 H1 e c _ fun vs x I2 H2 e2 c2 a p => k vs x I2 H2 e2 c2 a (hm x p)
theorem na_nil : NA M tNil σ I H aNil (fun _ => True) := fun I1 H1 e c Q k => k [] () I1 H1 (Ex.refl e.si) c rfl True.intro
theorem na_cons {R : Rel α} [Mono R] {A : Hp → List V → β → Prop} {te : TE} {ta : TA} {P : α → Prop} {P2 : α → β → Prop} (hx : N M te σ I H R P) (hy : ∀ x, P x → NA M ta σ I H A (P2 x)) : NA M (tCons te ta) σ I H (aCons R A) (fun p => P p.1 ∧ P2 p.1 p.2) := fun I1 H1 e c Q k =>
  hx I1 H1 e c _ fun v x I2 H2 e2 c2 r p => hy x p I2 H2 (e.trans e2) c2 _ fun vs y I3 H3 e3 c3 q p2 => k _ (x, y) I3 H3 (e2.trans e3) c3 ⟨v, vs, rfl, Mono.up r e3.ii, q⟩ ⟨p, p2⟩
theorem nl_nil {R : Rel α} : NA M tNil σ I H (aAll R) (fun xs => xs = []) := fun I1 H1 e c Q k => k [] [] I1 H1 (Ex.refl e.si) c .nil rfl
theorem nl_cons {R : Rel α} [Mono R] {te : TE} {ta : TA} {P : α → Prop} {P2 : List α → Prop} (hx : N M te σ I H R P) (hy : NA M ta σ I H (aAll R) P2) : NA M (tCons te ta) σ I H (aAll R) (fun xs => ∃ y ys, xs = y :: ys ∧ P y ∧ P2 ys) := fun I1 H1 e c Q k =>
  hx I1 H1 e c _ fun v x I2 H2 e2 c2 r p => hy I2 H2 (e.trans e2) c2 _ fun vs ys I3 H3 e3 c3 q p2 => k _ (x :: ys) I3 H3 (e2.trans e3) c3 (.cons (Mono.up r e3.ii) q) ⟨x, ys, rfl, p, p2⟩
/-! operators, built-ins -/
theorem n_op {R : Rel α} [Mono R] {S : Rel β} {T : Rel γ} {ta tb : TE} {r : R2} {P : α → Prop} {P2 : β → Prop} {P3 : γ → Prop} (ha : N M ta σ I H R P) (hb : N M tb σ I H S P2)
    (hop : ∀ a b, P a → P2 b → ∀ v w I1 H1, Ex M.m I H I1 H1 → R I1 v a → S I1 w b → N M (tOp r (tC v) (tC w)) σ I1 H1 T P3) : N M (tOp r ta tb) σ I H T P3 := fun I1 H1 e c Q k =>
  ha I1 H1 e c _ fun v a I2 H2 e2 c2 r1 p1 => hb I2 H2 (e.trans e2) c2 _ fun w b I3 H3 e3 c3 r2 p2 =>
    hop a b p1 p2 v w I3 H3 ((e.trans e2).trans e3) (Mono.up r1 e3.ii) r2 I3 H3 (Ex.refl e3.si) c3 Q fun z y I4 H4 e4 c4 r3 p3 => k z y I4 H4 ((e2.trans e3).trans e4) c4 r3 p3
theorem n_i2 {ta tb : TE} {g : Int → Int → Int} {P P2 P3 : Int → Prop} (ha : N M ta σ I H dI P) (hb : N M tb σ I H dI P2) (h : ∀ a b, P a → P2 b → P3 (g a b)) : N M (tOp (L2.rI0 fun i j => .int (g i j)) ta tb) σ I H dI P3 :=
  n_op ha hb fun a b p q v w I1 H1 e r s => (e_i2 (e_c r) (e_c s)).n.imp fun x hx => by rw [hx]; exact h a b p q
theorem n_i2c {ta tb : TE} {C : Int → Int → Prop} {g : Int → Int → Int} {P P2 P3 : Int → Prop} (ha : N M ta σ I H dI P) (hb : N M tb σ I H dI P2) (hc : ∀ a b, P a → P2 b → C a b) (h : ∀ a b, P a → P2 b → P3 (g a b)) : N M (tOp (L2.rI C fun i j => .int (g i j)) ta tb) σ I H dI P3 :=
  n_op ha hb fun a b p q v w I1 H1 e r s => (e_i2c (e_c r) (e_c s) (hc a b p q)).n.imp fun x hx => by rw [hx]; exact h a b p q
theorem n_b2 {ta tb : TE} {g : Int → Int → Bool} {P P2 : Int → Prop} {P3 : Bool → Prop} (ha : N M ta σ I H dI P) (hb : N M tb σ I H dI P2) (h : ∀ a b, P a → P2 b → P3 (g a b)) : N M (tOp (L2.rI0 fun i j => .bl (g i j)) ta tb) σ I H dB P3 :=
  n_op ha hb fun a b p q v w I1 H1 e r s => (e_b2 (e_c r) (e_c s)).n.imp fun x hx => by rw [hx]; exact h a b p q
theorem n_eqI {ta tb : TE} {P P2 : Int → Prop} {P3 : Bool → Prop} (ha : N M ta σ I H dI P) (hb : N M tb σ I H dI P2) (h : ∀ a b, P a → P2 b → P3 (decide (a = b))) : N M (tOp rEq ta tb) σ I H dB P3 :=
  n_op ha hb fun a b p q v w I1 H1 e r s => (e_eqI (e_c r) (e_c s)).n.imp fun x hx => by rw [hx]; exact h a b p q
theorem n_cb1 {R : Rel α} {T : Rel γ} {te : TE} {r : List V → Hp → VK → Prop} {P : α → Prop} {P3 : γ → Prop} (ha : N M te σ I H R P) (hop : ∀ a, P a → ∀ v I1 H1, Ex M.m I H I1 H1 → R I1 v a → N M (tCB r (tCons (tC v) tNil)) σ I1 H1 T P3) : N M (tCB r (tCons te tNil)) σ I H T P3 := fun I1 H1 e c Q k =>
  ha I1 H1 e c _ fun v a I2 H2 e2 c2 r1 p1 => hop a p1 v I2 H2 (e.trans e2) r1 I2 H2 (Ex.refl e2.si) c2 Q fun z y I4 H4 e4 c4 r3 p3 => k z y I4 H4 (e2.trans e4) c4 r3 p3
theorem n_then {R : Rel α} {T : Rel γ} {te : TE} {kk : V → Hp → VK → Prop} {P : α → Prop} {P3 : γ → Prop} (ha : N M te σ I H R P) (hop : ∀ a, P a → ∀ v I1 H1, Ex M.m I H I1 H1 → R I1 v a → N M (tThen (tC v) kk) σ I1 H1 T P3) : N M (tThen te kk) σ I H T P3 := fun I1 H1 e c Q k =>
  ha I1 H1 e c _ fun v a I2 H2 e2 c2 r1 p1 => hop a p1 v I2 H2 (e.trans e2) r1 I2 H2 (Ex.refl e2.si) c2 Q fun z y I4 H4 e4 c4 r3 p3 => k z y I4 H4 (e2.trans e4) c4 r3 p3
theorem n_tupleL {R : Rel α} [Mono R] {te : TE} {P : List α → Prop} (ha : N M te σ I H (dL R) P) : N M (tThen te (kTup K)) σ I H (dT R) P := n_then ha fun a p v I1 H1 e r => (e_tupleL (e_c r)).n.imp fun x hx => by rw [hx]; exact p
theorem n_ixL {R : Rel α} [Mono R] {ta tb : TE} {xs : List α} {P : Int → Prop} {P3 : α → Prop} (ha : D M ta σ I H (dL R) xs) (hb : N M tb σ I H dI P) (h : ∀ i, P i → ∃ x, atI xs i = some x ∧ P3 x) : N M (tOp (rIxL K) ta tb) σ I H R P3 :=
  n_op ha.n hb fun a b p q v w I1 H1 e r s => by
    obtain ⟨x, hx, p3⟩ := h b q
    subst p
    exact (e_ixL (e_c r) (e_c s) hx).n.imp fun y hy => by rw [hy]; exact p3
/-! calls -/
theorem n_cal {A : Hp → List V → α → Prop} {pre : α → Prop} {R : Rel β} {f : α → β} {ta : TA} {P : α → Prop} {E : XK} (ha : NA M ta σ I H A P) (hp : ∀ x, P x → pre x) : N M (tCall (sp A pre R f) [] E ta) σ I H R (fun y => ∃ x, P x ∧ y = f x) := fun I1 H1 e c Q k =>
  ha I1 H1 e c _ fun vs x I2 H2 e2 c2 q p => ⟨I2, x, e2.si, by rw [List.append_nil]; exact q, hp x p, fun v I' H' e3 r => k v _ I' H' (e2.trans e3.of0) (M.st e3 c2) r ⟨x, p, rfl⟩⟩
theorem n_callHN {hp c : Addr} {A : Hp → List V → α → Prop} {pre : α → Prop} {R : Rel β} {P : α → β → Prop} {ta : TA} {PA : α → Prop} {E : XK} {j : Nat} (hj : σ[j]? = some (some (.ref hp))) (ha : NA (HM hp c) ta σ I H A PA) (hx : ∀ x, PA x → pre x) :
    N (HM hp c) (tCall (spH A pre R P) [] E (tCons (tVar j) ta)) σ I H R (fun y => ∃ x, PA x ∧ P x y) := fun I1 H1 e cc Q k =>
  ⟨.ref hp, hj, ha I1 H1 e cc _ fun vs x I2 H2 e2 c2 q p => ⟨hp, c, vs, I2, x, by rw [List.append_nil], e2.si, c2, q, hx x p, fun v y I' H' e3 c3 r p2 => k v y I' H' (e2.trans e3) c3 r ⟨x, p, p2⟩⟩⟩
/-! tests -/
def NT (M : Mode) (tt : TT) (σ : L2.St) (I H : Hp) (P : Bool → Prop) : Prop :=
  ∀ I1 H1, Ex M.m I H I1 H1 → M.C I1 H1 → ∀ Q : Bool → Hp → Prop, (∀ b I2 H2, Ex M.m I1 H1 I2 H2 → M.C I2 H2 → P b → Q b H2) → tt σ H1 Q
theorem DT.n {tt : TT} {b : Bool} (h : DT M tt σ I H b) : NT M tt σ I H (fun x => x = b) := fun I1 H1 e c Q k => h I1 H1 e c _ fun I2 H2 e2 c2 => k b I2 H2 e2 c2 rfl
theorem NT.imp {tt : TT} {P P' : Bool → Prop} (h : NT M tt σ I H P) (hm : ∀ b, P b → P' b) : NT M tt σ I H P' := fun I1 H1 e c Q k => h I1 H1 e c _ fun b I2 H2 e2 c2 p => k b I2 H2 e2 c2 (hm b p)
theorem NT.at {tt : TT} {P : Bool → Prop} (h : NT M tt σ I H P) {I1 H1 : Hp} (e : Ex M.m I H I1 H1) : NT M tt σ I1 H1 P := fun I2 H2 e2 c Q k => h I2 H2 (e.trans e2) c Q k
theorem nt_val {te : TE} {P : Bool → Prop} (h : N M te σ I H dB P) : NT M (tB te) σ I H P := fun I1 H1 e c Q k => h I1 H1 e c _ fun v a I2 H2 e2 c2 r p => ⟨a, r, k a I2 H2 e2 c2 p⟩
theorem nt_test {te : TE} {P : Bool → Prop} (h : N M te σ I H dB P) : NT M (tTest te) σ I H P := fun I1 H1 e c Q k => h I1 H1 e c _ fun v a I2 H2 e2 c2 r p => ⟨a, r, k a I2 H2 e2 c2 p⟩
theorem nt_yes : NT M tYes σ I H (fun b => b = true) := fun I1 H1 e c Q k => k true I1 H1 (Ex.refl e.si) c rfl
theorem nt_and {ta tb : TT} {a : Bool} {P : Bool → Prop} (ha : DT M ta σ I H a) (hb : a = true → NT M tb σ I H P) (h : a = false → P false) : NT M (tAnd ta tb) σ I H P := fun I1 H1 e c Q k =>
  ha I1 H1 e c _ fun I2 H2 e2 c2 => by
    cases a with
    | true => exact hb rfl I2 H2 (e.trans e2) c2 _ fun b I3 H3 e3 c3 p => k b I3 H3 (e2.trans e3) c3 p
    | false => exact k false I2 H2 e2 c2 (h rfl)
theorem s_ifN {tc : TT} {t u : TS} {E : Ends} {P : Bool → Prop} (d : NT M tc σ I H P) (s : Sub I H) (c : M.C I H) (h1 : P true → ∀ I1 H1, Ex M.m I H I1 H1 → M.C I1 H1 → t E σ H1) (h2 : P false → ∀ I1 H1, Ex M.m I H I1 H1 → M.C I1 H1 → u E σ H1) : tIfS tc t u E σ H :=
  d I H (Ex.refl s) c _ fun b I1 H1 e c1 p => by
    cases b with
    | true => exact h1 p I1 H1 e c1
    | false => exact h2 p I1 H1 e c1
/-! sources -/
def SrN (M : Mode) (wi : TI) (σ : L2.St) (I H : Hp) (S : Rel α) (P : List α → Prop) : Prop :=
  ∀ I1 H1, Ex M.m I H I1 H1 → M.C I1 H1 → ∀ Rk : It → Hp → Prop,
    (∀ xs, P xs → ∀ J I2 H2, Ex M.m I1 H1 I2 H2 → M.C I2 H2 → ∀ G Y, Walk J xs.length G Y → (∀ I3 H3, Sub I2 I3 → Sub I3 H3 → G H3) →
      (∀ i I3 H3 v H4, Sub I2 I3 → Sub I3 H3 → (h : i < xs.length) → Y i H3 v H4 → ∃ I4, Ex0 I3 H3 I4 H4 ∧ S I4 v xs[i]) → Rk J H2) → wi σ H1 Rk
theorem Sr.n {wi : TI} {S : Rel α} {xs : List α} (h : Sr M wi σ I H S xs) : SrN M wi σ I H S (fun ys => ys = xs) := fun I1 H1 e c Rk k => h I1 H1 e c Rk (k xs rfl)
theorem sn_rng {te : TE} {P : Int → Prop} (h : N M te σ I H dI P) (hb : ∀ n, P n → -(2 ^ 62) ≤ n ∧ n < 2 ^ 62) : SrN M (iRng1 (tCons te tNil)) σ I H dI (fun xs => ∃ n, P n ∧ xs = rng n) := fun I1 H1 e c Rk k =>
  h I1 H1 e c _ fun v n I2 H2 e2 c2 r p => s_rng (M := M) (σ := σ) (I := I2) (H := H2) (e_c r) (hb n p).1 (hb n p).2 I2 H2 (Ex.refl e2.si) c2 Rk fun J I3 H3 e3 c3 G Y w g y => k (rng n) ⟨n, p, rfl⟩ J I3 H3 (e2.trans e3) c3 G Y w g y
theorem sn_tup {R : Rel α} [Mono R] {te : TE} {P : List α → Prop} (h : N M te σ I H (dT R) P) : SrN M (iTup K te) σ I H R P := fun I1 H1 e c Rk k =>
  h I1 H1 e c _ fun v xs I2 H2 e2 c2 r p => s_tup (M := M) (σ := σ) (I := I2) (H := H2) (K := K) (e_c r) I2 H2 (Ex.refl e2.si) c2 Rk fun J I3 H3 e3 c3 G Y w g y => k xs p J I3 H3 (e2.trans e3) c3 G Y w g y
theorem sn_list {R : Rel α} [Mono R] {te : TE} {P : List α → Prop} (h : N M te σ I H (dL R) P) : SrN M (iList K te) σ I H R P := fun I1 H1 e c Rk k =>
  h I1 H1 e c _ fun v xs I2 H2 e2 c2 r p => s_list (M := M) (σ := σ) (I := I2) (H := H2) (K := K) (e_c r) I2 H2 (Ex.refl e2.si) c2 Rk fun J I3 H3 e3 c3 G Y w g y => k xs p J I3 H3 (e2.trans e3) c3 G Y w g y
theorem s_forN {wi : TI} {g : TG} {tb : TS} {E : Ends} {S : Rel α} {Γ : L2.St → α → Hp → L2.St → Prop} {P : List α → Prop} (hs : SrN M wi σ I H S P) (hg : Bind g S Γ) (s : Sub I H) (c : M.C I H)
    (h : ∀ xs, P xs → ∃ Pv : Nat → L2.St → Hp → Hp → Prop, (∀ i σ I1 H1 I2 H2, Ex0 I1 H1 I2 H2 → Pv i σ I1 H1 → Pv i σ I2 H2) ∧ (∀ I1 H1, Ex M.m I H I1 H1 → M.C I1 H1 → Pv 0 σ I1 H1) ∧
      (∀ I0, Sub I I0 → ∀ i (hi : i < xs.length) σ1 σ2 I1 H1, Sub I0 I1 → Sub I1 H1 → M.C I1 H1 → Pv i σ1 I1 H1 → Γ σ1 xs[i] I1 σ2 → tb { E with nx := Nxt M Pv I0 (i + 1), ct := Nxt M Pv I0 (i + 1), bk := E.nx } σ2 H1) ∧
      (∀ σ1 I1 H1, Sub I I1 → Sub I1 H1 → M.C I1 H1 → Pv xs.length σ1 I1 H1 → E.nx σ1 H1)) : tFor wi g tb E σ H := by
  refine hs I H (Ex.refl s) c _ fun xs px J I2 H2 e2 c2 G Y wk hG hY => ?_
  obtain ⟨Pv, st, h0, step, done⟩ := h xs px
  refine for_it wk (fun i => Nxt M Pv I2 i) ⟨I2, Sub.refl, e2.si, c2, h0 I2 H2 e2 c2⟩ (fun i σ' H' hi ⟨I', s1, s2, _⟩ => hG I' H' s1 s2) ?_ ?_
  · rintro i v σ1 H3 H4 hi ⟨I3, s3, s3', c3, p3⟩ hy
    obtain ⟨I4, x4, r4⟩ := hY i I3 H3 v H4 s3 s3' hi hy
    refine hg σ1 I4 H4 v _ x4.si r4 _ fun σ2 hσ => ?_
    exact step I2 e2.ii i hi σ1 σ2 I4 H4 (s3.trans x4.ii) x4.si (M.st x4 c3) (st _ _ _ _ _ _ x4 p3) hσ
  · rintro σ1 H3 ⟨I3, s3, s3', c3, p3⟩
    exact done σ1 I3 H3 (e2.ii.trans s3) s3' c3 p3
/-! comprehensions -/
theorem n_lc {wi : TI} {g : TG} {S : Rel α} {Γ : L2.St → α → Hp → L2.St → Prop} {R : Rel β} [Mono R] {tt : TT} {te : TE} {vs : List Nat} {PX : List α → Prop} (Pv : List α → Nat → List β → Prop)
    (hs : SrN M wi σ I H S PX) (hg : Bind g S Γ) (hw : ∀ σ2 x J, Γ (wipe σ vs) x J σ2 → wipe σ2 vs = wipe σ vs) (hz : ∀ xs, PX xs → xs.length < sizeLine ∧ Pv xs 0 [])
    (he : ∀ xs, PX xs → ∀ i (hi : i < xs.length) ys, Pv xs i ys → ∀ σ2 I1 H1, Ex M.m I H I1 H1 → Γ (wipe σ vs) xs[i] I1 σ2 → NT M tt σ2 I1 H1 (fun b => b = false → Pv xs (i + 1) ys) ∧ N M te σ2 I1 H1 R (fun y => Pv xs (i + 1) (ys ++ [y]))) :
    N M (tLc wi g tt te vs) σ I H (dL R) (fun ys => ∃ xs, PX xs ∧ Pv xs xs.length ys) := fun I1 H1 e c Q k => by
  refine hs I1 H1 e c _ fun xs px J I2 H2 e2 c2 G Y wk hG hY => ?_
  intro D hD
  have nD := M.fresh c2 hD
  have iD : I2 D = none := e2.si.nn hD
  refine lc_it wk (fun i H' => ∃ I', Ex M.m I2 H2 I' H' ∧ I' D = none ∧ M.C I' H' ∧ ∃ acc ys, H' D = some (.lst acc) ∧ Paired (R I') acc ys ∧ ys.length ≤ i ∧ Pv xs i ys)
    ⟨I2, Ex.cell e2.si hD, iD, M.put c2 nD, [], [], upd_same, .nil, Nat.le_refl _, (hz xs px).2⟩ (fun i H' hi ⟨I', x, _⟩ => hG I' H' x.ii x.si) ?_ ?_
  · rintro i v H3 H4 hi ⟨I3, x3, n3, c3, acc, ys, hacc, pacc, hl, pv⟩ hy
    obtain ⟨I4, x4, r4⟩ := hY i I3 H3 v H4 x3.ii x3.si hi hy
    have n4 : I4 D = none := x4.out n3 (by rw [hacc]; simp)
    have c4 := M.st x4 c3
    have a4 : H4 D = some (.lst acc) := x4.kp _ _ (fun z => z) hacc
    have ex : Ex M.m I H I4 H4 := ((e.trans e2).trans x3).trans x4.of0
    have lacc : acc.length ≤ i := by rw [Paired.length pacc]; exact hl
    refine hg _ I4 H4 v _ x4.si r4 _ fun σ2 hσ => ⟨hw _ _ _ hσ, ?_⟩
    obtain ⟨ht, hv⟩ := he xs px i hi ys pv σ2 I4 H4 ex hσ
    refine ht I4 H4 (Ex.refl x4.si) c4 _ fun b I5 H5 x5 c5 pb => ?_
    have hmD : ¬ M.m D := fun z => nD (M.ms _ z)
    have a5 : H5 D = some (.lst acc) := x5.kp _ _ hmD a4
    have n5 : I5 D = none := x5.out n4 (by rw [a4]; simp)
    cases b with
    | false =>
      exact ⟨I5, (x3.trans x4.of0).trans x5, n5, c5, acc, ys, a5, paired_up pacc (x4.ii.trans x5.ii), Nat.le_succ_of_le hl, pb rfl⟩
    | true =>
      refine hv I5 H5 x5 c5 _ fun w y I6 H6 x6 c6 r6 py => ?_
      have a6 : H6 D = some (.lst acc) := x6.kp _ _ hmD a5
      have n6 : I6 D = none := x6.out n5 (by rw [a5]; simp)
      have hzx := (hz xs px).1
      refine ⟨acc, a6, by omega, I6, (((x3.trans x4.of0).trans x5).trans x6).put (.inr hD) n6, n6, M.put c6 nD, _, ys ++ [y], upd_same, ?_, by simp; exact hl, py⟩
      exact paired_app (paired_up pacc ((x4.ii.trans x5.ii).trans x6.ii)) (.cons r6 .nil)
  · rintro H3 ⟨I3, x3, n3, c3, acc, ys, hacc, pacc, hl, pv⟩
    have z := x3.seal hD hacc n3
    have c' : M.C (upd I3 D (.lst acc)) H3 := M.st0 c3 (fun b o _ h => h) fun b hb n => by
      rw [upd_ne (show b ≠ D from fun q => nD (by rw [← q]; exact hb))]; exact n
    exact k _ ys _ _ (e2.trans z) c' ⟨D, acc, rfl, upd_same, paired_up pacc (Sub.in_ n3)⟩ ⟨xs, px, pv⟩
/-- over one name -/
theorem n_lcN {wi : TI} {S : Rel α} {R : Rel β} [Mono R] {tt : TT} {te : TE} {vs : List Nat} {j : Nat} {PX : List α → Prop} (Pv : List α → Nat → List β → Prop)
    (hs : SrN M wi σ I H S PX) (hz : ∀ xs, PX xs → xs.length < sizeLine ∧ Pv xs 0 [])
    (he : ∀ xs, PX xs → ∀ i (hi : i < xs.length) ys, Pv xs i ys → ∀ v I1 H1, Ex M.m I H I1 H1 → S I1 v xs[i] → NT M tt ((wipe σ vs).set j (some v)) I1 H1 (fun b => b = false → Pv xs (i + 1) ys) ∧ N M te ((wipe σ vs).set j (some v)) I1 H1 R (fun y => Pv xs (i + 1) (ys ++ [y]))) (hj : j ∈ vs := by decide) :
    N M (tLc wi (gName j) tt te vs) σ I H (dL R) (fun ys => ∃ xs, PX xs ∧ Pv xs xs.length ys) :=
  n_lc Pv hs (b_name (j := j)) (fun σ2 x J ⟨v, e, _⟩ => by rw [e, wipe_set hj, wipe_wipe]) hz fun xs px i hi ys pv σ2 I1 H1 x ⟨v, e, r⟩ => by
    rw [e]; exact he xs px i hi ys pv v I1 H1 x r
/-! statements -/
theorem n_ret {te : TE} {E : Ends} {R : Rel α} {P : α → Prop} (d : N M te σ I H R P) (s : Sub I H) (c : M.C I H) (k : ∀ v x I1 H1, Ex M.m I H I1 H1 → M.C I1 H1 → R I1 v x → P x → E.rt v H1) : tRet te E σ H := d.use s c k
theorem n_par {ta tb : TE} {i j : Nat} {E : Ends} {R : Rel α} {S : Rel β} [Mono R] {P : α → Prop} {P2 : β → Prop} (dx : N M ta σ I H R P) (dy : N M tb σ I H S P2) (s : Sub I H) (c : M.C I H)
    (k : ∀ v w x y I1 H1, Ex M.m I H I1 H1 → M.C I1 H1 → R I1 v x → S I1 w y → P x → P2 y → E.nx ((σ.set i (some v)).set j (some w)) H1) : tPar i j (tCons ta (tCons tb tNil)) E σ H :=
  dx.use s c fun v x I1 H1 e c1 r p => dy I1 H1 e c1 _ fun w y I2 H2 e2 c2 r2 p2 => ⟨v, w, rfl, k v w x y I2 H2 (e.trans e2) c2 (Mono.up r e2.ii) r2 p p2⟩
theorem n_pair {R : Rel α} {S : Rel β} [Mono R] [Mono S] {ta tb : TE} {P : α → Prop} {P2 : β → Prop} (ha : N M ta σ I H R P) (hb : N M tb σ I H S P2) : N M (tTup (tCons ta (tCons tb tNil))) σ I H (dP R S) (fun p => P p.1 ∧ P2 p.2) := fun I1 H1 e c Q k =>
  ha I1 H1 e c _ fun v x I2 H2 e2 c2 r p => hb I2 H2 (e.trans e2) c2 _ fun w y I3 H3 e3 c3 q p2 => ⟨(by show 2 ≤ sizeLine; decide), fun a ha =>
    have z := Ex.new (m := no) (o := .tup [v, w]) e3.si ha
    k _ (x, y) _ _ ((e2.trans e3).trans z.of0) (M.st z c3) ⟨a, v, w, rfl, upd_same, Mono.up (Mono.up r e3.ii) z.ii, Mono.up q z.ii⟩ ⟨p, p2⟩⟩
end
end DL

/-! a cell that is read for one statement: frozen, then thawed -/
namespace DL
open PySem PySem.Spec PyProof.Rows L2 RZ
def del (I : Hp) (a : Addr) : Hp := fun b => if b = a then none else I b
theorem del_same {I : Hp} {a : Addr} : del I a a = none := by unfold del; rw [if_pos rfl]
theorem del_ne {I : Hp} {a b : Addr} (h : b ≠ a) : del I a b = I b := by unfold del; rw [if_neg h]
theorem del_sub {I : Hp} {a : Addr} : Sub (del I a) I := fun b o e => by
  by_cases h : b = a
  · subst h; rw [del_same] at e; cases e
  · rw [del_ne h] at e; exact e
section
variable {α β γ : Type} {m : Addr → Prop} {σ : L2.St} {I H I1 H1 : Hp} {K : PySem.W.Frag}
/-- what was told while a was frozen, told behind its thaw -/
theorem Ex.thaw {a : Addr} {o : HO} (hI : I a = none) (hH : H a = some o) (e : Ex m (upd I a o) H I1 H1) : Ex m I H (del I1 a) H1 where
  si := fun b u x => e.si _ _ (del_sub _ _ x)
  ii := fun b u x => by
    have hb : b ≠ a := fun z => by rw [z, hI] at x; cases x
    rw [del_ne hb]
    exact e.ii _ _ (by rw [upd_ne hb]; exact x)
  kp := e.kp
  dm := e.dm
  fr := fun b hb => by
    by_cases h : b = a
    · subst h; rw [del_same] at hb; exact absurd rfl hb
    · rw [del_ne h] at hb
      rcases e.fr b hb with z | z
      · rw [upd_ne h] at z; exact .inl z
      · exact .inr z
theorem Ex.at_frz {a : Addr} {o : HO} (e : Ex m (upd I a o) H I1 H1) : H1 a = some o := e.si _ _ (e.ii _ _ upd_same)
variable {te ti : TE} {i : Nat} {E : Ends} {a : Addr}
/-- name = [..] of ints that reads the cell -/
theorem z_asg {o : HO} {xs : List Int} (hH : H a = some o) (hI : I a = none) (s : Sub I H) (d : DF M0 te σ (upd I a o) H dI xs)
    (k : ∀ v J G, Ex0 I H J G → J a = none → G a = some o → dL dI J v xs → E.nx (σ.set i (some v)) G) : tAsg te (gName i) E σ H :=
  d (upd I a o) H (Ex.refl (s.fz hH hI)) True.intro _ fun p vs I2 H2 e c hp hI2 hH2 pv => by
    have e' : Ex0 I H (del I2 a) H2 := Ex.thaw hI hH e
    have hpa : p ≠ a := fun z => by rw [z, hH] at hp; cases hp
    have hd : del I2 a p = none := by rw [del_ne hpa]; exact hI2
    have g := e'.seal hp hH2 hd
    have ei := paired_ints pv
    subst ei
    refine k _ _ _ g (by rw [upd_ne (Ne.symm hpa)]; exact del_same) e.at_frz ⟨p, _, rfl, upd_same, ints_paired⟩
/-- a test that reads the cell -/
theorem z_if {o : HO} {b : Bool} {tc : TT} {t u : TS} (hH : H a = some o) (hI : I a = none) (s : Sub I H) (d : DT M0 tc σ (upd I a o) H b)
    (h1 : b = true → ∀ J G, Ex0 I H J G → J a = none → G a = some o → t E σ G) (h2 : b = false → ∀ J G, Ex0 I H J G → J a = none → G a = some o → u E σ G) : tIfS tc t u E σ H :=
  d (upd I a o) H (Ex.refl (s.fz hH hI)) True.intro _ fun I2 H2 e c => by
    have e' : Ex0 I H (del I2 a) H2 := Ex.thaw hI hH e
    cases b with
    | true => exact h1 rfl _ _ e' del_same e.at_frz
    | false => exact h2 rfl _ _ e' del_same e.at_frz
/-- cell[i] = e, e reads the cell -/
theorem z_set {j : Nat} {xs : List Int} {x n : Int} (hj : σ[j]? = some (some (.ref a))) (hH : H a = some (.lst (xs.map V.int))) (hI : I a = none) (s : Sub I H) (d : D M0 te σ (upd I a (.lst (xs.map V.int))) H dI x)
    (dn : D M0 ti σ (upd I a (.lst (xs.map V.int))) H dI n) (h0 : 0 ≤ n) (h1 : n < xs.length)
    (k : ∀ J G, Ex0 I H J G → J a = none → G a = some (.lst (xs.map V.int)) → E.nx σ (upd G a (.lst ((xs.set n.toNat x).map V.int)))) : tAsg te (gSub (tVar j) ti rSetL) E σ H :=
  d (upd I a _) H (Ex.refl (s.fz hH hI)) True.intro _ fun v I2 H2 e c r => ⟨.ref a, hj, dn I2 H2 e c _ fun w I3 H3 e3 c3 q => by
    have e' := e.trans e3
    refine ⟨a, xs.map V.int, n, n.toNat, rfl, q, e'.at_frz, ?_, ?_⟩
    · rw [List.length_map]
      unfold ixN
      rw [if_pos h0, if_pos h1]
    · have z := k _ _ (Ex.thaw hI hH e') del_same e'.at_frz
      rw [List.map_set] at z
      rw [show v = _ from r]
      exact z⟩
/-- the cell as a list of ints while it is frozen -/
theorem frz_ints {xs : List Int} : dL dI (upd I a (.lst (xs.map V.int))) (.ref a) xs := ⟨a, _, rfl, upd_same, ints_paired⟩
end
section
variable {α β γ : Type} {M : Mode} {σ : L2.St} {I H : Hp} {K : PySem.W.Frag}
/-- name, name = e, a fresh list -/
theorem s_parF {ta tb : TE} {i j : Nat} {E : Ends} {R : Rel α} {S : Rel β} [Mono R] {x : α} {ys : List β} (dx : D M ta σ I H R x) (dy : DF M tb σ I H S ys) (s : Sub I H) (c : M.C I H)
    (k : ∀ v p vs I1 H1, Ex M.m I H I1 H1 → M.C I1 H1 → R I1 v x → H p = none → I1 p = none → H1 p = some (.lst vs) → Paired (S I1) vs ys → E.nx ((σ.set i (some v)).set j (some (.ref p))) H1) : tPar i j (tCons ta (tCons tb tNil)) E σ H :=
  dx.use s c fun v I1 H1 e c1 r => dy I1 H1 e c1 _ fun p vs I2 H2 e2 c2 hp hI hH pv => ⟨v, .ref p, rfl, k v p vs I2 H2 (e.trans e2) c2 (Mono.up r e2.ii) (by
    cases h : H p with
    | none => rfl
    | some o => exact absurd hp (e.dm p (by rw [h]; simp))) hI hH pv⟩
/-- [e for i, j in ..] of ints, a fresh list -/
theorem f_lcP {wi : TI} {S : Rel α} {T : Rel γ} {xs : List (α × γ)} {te : TE} {vs : List Nat} {i j : Nat} {f : α × γ → Int}
    (hs : Sr M wi σ I H (dP S T) xs) (hz : xs.length < sizeLine) (he : ∀ n (hn : n < xs.length), ∀ v w I1 H1, Ex M.m I H I1 H1 → S I1 v xs[n].1 → T I1 w xs[n].2 → D M te (((wipe σ vs).set i (some v)).set j (some w)) I1 H1 dI (f xs[n])) (hi : i ∈ vs := by decide) (hj : j ∈ vs := by decide) :
    DF M (tLc wi (gTup K 2 (gCons (gName i) (gCons (gName j) gNil))) tYes te vs) σ I H dI (xs.map f) := fun I1 H1 e c Q k => by
  refine hs I1 H1 e c _ fun J I2 H2 e2 c2 G Y wk hG hY => ?_
  intro D hD
  have nD := M.fresh c2 hD
  have iD : I2 D = none := e2.si.nn hD
  have hmD : ¬ M.m D := fun z => nD (M.ms _ z)
  refine lc_it wk (fun n H' => ∃ I', Ex M.m I2 H2 I' H' ∧ I' D = none ∧ M.C I' H' ∧ H' D = some (.lst (((xs.take n).map f).map V.int)))
    ⟨I2, Ex.cell e2.si hD, iD, M.put c2 nD, by rw [upd_same]; rfl⟩ (fun n H' hn ⟨I', x, _⟩ => hG I' H' x.ii x.si) ?_ ?_
  · rintro n v H3 H4 hn ⟨I3, x3, n3, c3, hacc⟩ hy
    obtain ⟨I4, x4, r4⟩ := hY n I3 H3 v H4 x3.ii x3.si hn hy
    have n4 : I4 D = none := x4.out n3 (by rw [hacc]; simp)
    have c4 := M.st x4 c3
    have a4 : H4 D = some (.lst (((xs.take n).map f).map V.int)) := x4.kp _ _ (fun z => z) hacc
    have ex : Ex M.m I H I4 H4 := ((e.trans e2).trans x3).trans x4.of0
    have hw : wipe (((wipe σ vs).set i (some v)).set j (some v)) vs = wipe σ vs := by rw [wipe_set hj, wipe_set hi, wipe_wipe]
    refine b_pair (K := K) (i := i) (j := j) (wipe σ vs) I4 H4 v _ x4.si r4 _ fun σ2 hσ => ?_
    obtain ⟨y, z, rfl, ry, rz⟩ := hσ
    refine ⟨by rw [wipe_set hj, wipe_set hi, wipe_wipe], ?_⟩
    refine he n hn y z I4 H4 ex ry rz I4 H4 (Ex.refl x4.si) c4 _ fun w I6 H6 x6 c6 r6 => ?_
    have a6 : H6 D = some (.lst (((xs.take n).map f).map V.int)) := x6.kp _ _ hmD a4
    have n6 : I6 D = none := x6.out n4 (by rw [a4]; simp)
    refine ⟨_, a6, ?_, I6, ((x3.trans x4.of0).trans x6).put (.inr hD) n6, n6, M.put c6 nD, ?_⟩
    · rw [List.length_map, List.length_map, List.length_take]; omega
    · rw [upd_same, show xs.take (n + 1) = xs.take n ++ [xs[n]] by rw [List.take_add_one, List.getElem?_eq_getElem hn]; rfl, List.map_append, List.map_append, show w = _ from r6]
      rfl
  · rintro H3 ⟨I3, x3, n3, c3, hacc⟩
    rw [List.take_length] at hacc
    exact k D _ I3 H3 (e2.trans x3) c3 (by
      cases h : H1 D with
      | none => rfl
      | some o => exact absurd hD (e2.dm D (by rw [h]; simp))) n3 hacc ints_paired
end
end DL

/-! sorted lists and sets of tuples of ints -/
namespace DL
open PySem PySem.Spec PyProof.Rows L2 RZ
theorem lex_code {B : Int} : ∀ {ns ms : List Int}, ns.length = ms.length → TS.Bd B ns → TS.Bd B ms → TS.code B ns ≤ TS.code B ms → HT.lexLt ns ms = true ∨ ns = ms
  | [], [], _, _, _, _ => .inr rfl
  | d :: r, e :: q, hl, h1, h2, hc => by
    have hl' : r.length = q.length := by simpa using hl
    rw [HT.lexLt_cons]
    by_cases hde : d = e
    · subst hde
      rw [if_pos rfl]
      have hc' : TS.code B r ≤ TS.code B q := by
        have h3 := TS.code_same (B := B) (d := d) hl'.symm
        have : ¬ TS.code B (d :: q) < TS.code B (d :: r) := by omega
        have := (not_congr h3).mp this
        omega
      rcases lex_code hl' h1.tail h2.tail hc' with z | z
      · exact .inl z
      · exact .inr (by rw [z])
    · rw [if_neg hde]
      refine .inl (decide_eq_true ?_)
      rcases Int.lt_trichotomy d e with y | y | y
      · exact y
      · exact absurd y hde
      · have := TS.code_lt (B := B) hl'.symm h2.tail h1.tail y
        omega
section
variable {α β γ : Type} {M : Mode} {σ : L2.St} {I H : Hp} {K : PySem.W.Frag} {P : Program} {w : World}
/-- tuples of ints, by their places -/
theorem tups_of : ∀ {vs : List V} {xs : List (List Int)}, Paired (dT dI I) vs xs → ∃ ks : List (Addr × List Int), vs = ks.map (fun p => V.ref p.1) ∧ ks.map (·.2) = xs ∧ ∀ p ∈ ks, I p.1 = some (.tup (p.2.map V.int))
  | _, _, .nil => ⟨[], rfl, rfl, fun p hp => by cases hp⟩
  | _, _, .cons h t => by
    obtain ⟨a, vs', e, ha, p⟩ := h
    obtain ⟨ks, h1, h2, h3⟩ := tups_of t
    have ev := paired_ints p
    subst ev
    refine ⟨(a, _) :: ks, by rw [e, h1]; rfl, by rw [← h2]; rfl, fun q hq => ?_⟩
    rcases List.mem_cons.mp hq with z | z
    · rw [z]; exact ha
    · exact h3 q z
theorem of_tups : ∀ {ks : List (Addr × List Int)}, (∀ p ∈ ks, I p.1 = some (.tup (p.2.map V.int))) → Paired (dT dI I) (ks.map fun p => V.ref p.1) (ks.map (·.2))
  | [], _ => .nil
  | p :: ks, h => .cons ⟨p.1, _, rfl, h p (List.mem_cons_self ..), ints_paired⟩ (of_tups fun q hq => h q (List.mem_cons_of_mem _ hq))
/-- sorted(set(xs)) -/
theorem e_sortset {te : TE} {xs : List (List Int)} {d : Nat} {B : Int} (hd : 1 ≤ d) (h : D M te σ I H (dL (dT dI)) xs) (hl : xs.length < 64) (hx : ∀ x ∈ xs, x.length = d ∧ TS.Bd B x) :
    N M (tCB (rSortedT K P w) (tCons (tCB (rSetOfT K P w) (tCons te tNil)) tNil)) σ I H (dL (dT dI)) (fun ys => (∀ y, y ∈ ys ↔ y ∈ xs) ∧ ys.Pairwise (fun a b => HT.lexLt a b = true) ∧ ys.length ≤ xs.length) := fun I1 H1 e c Q k =>
  h I1 H1 e c _ fun v I2 H2 e2 c2 ⟨a, vs, ev, ha, p⟩ => by
    obtain ⟨ks, h1, h2, h3⟩ := tups_of p
    subst h1 h2
    refine ⟨a, ks, by rw [ev], SqL.mk' (e2.si _ _ ha), fun q hq => SqT.mk' (e2.si _ _ (h3 q hq)), by simpa using hl, fun s L hs hL1 hL2 => ?_⟩
    have f1 : Ex M.m I2 H2 I2 (upd H2 s (SetTO P w s L)) := Ex.cell e2.si hs
    have c3 : M.C I2 (upd H2 s (SetTO P w s L)) := M.put c2 (M.fresh c2 hs)
    refine ⟨s, L, d, B, rfl, upd_same, fun q hq => SqT.mk' (f1.si _ _ (h3 q (hL1 q hq))), hd, fun q hq => hx _ (List.mem_map_of_mem (hL1 q hq)), fun L' pp perm nd l64 pw hp => ?_⟩
    have f2 := Ex.new (m := no) (o := .lst (L'.map fun q => V.ref q.1)) f1.si hp
    have hk : ∀ q ∈ L', q ∈ ks := fun q hq => hL1 q (perm.mem_iff.mp hq)
    refine k (.ref pp) (L'.map (·.2)) _ _ ((e2.trans f1).trans f2.of0) (M.st f2 c3) ⟨pp, _, rfl, upd_same, of_tups fun q hq => f2.ii _ _ (h3 q (hk q hq))⟩ ⟨fun y => ⟨fun hy => ?_, fun hy => ?_⟩, ?_, ?_⟩
    · obtain ⟨q, hq, rfl⟩ := List.mem_map.mp hy
      exact List.mem_map_of_mem (hk q hq)
    · obtain ⟨q, hq, rfl⟩ := List.mem_map.mp hy
      have := hL2 q hq
      exact (perm.map _).mem_iff.mpr this
    · rw [List.pairwise_map]
      have pw2 := pw.and (List.pairwise_map.mp nd)
      refine List.Pairwise.imp_of_mem (fun {q r} hq hr hqr => ?_) pw2
      have b1 := hx _ (List.mem_map_of_mem (f := (·.2)) (hk q hq))
      have b2 := hx _ (List.mem_map_of_mem (f := (·.2)) (hk r hr))
      rcases lex_code (B := B) (by rw [b1.1, b2.1]) b1.2 b2.2 hqr.1 with z | z
      · exact z
      · exact absurd z hqr.2
    · have s1 : (L'.map (·.2)).Nodup := nd
      have s2 : ∀ y ∈ L'.map (·.2), y ∈ ks.map (·.2) := fun y hy => by
        obtain ⟨q, hq, rfl⟩ := List.mem_map.mp hy
        exact List.mem_map_of_mem (hk q hq)
      exact (List.subset_def.mpr fun {y} hy => s2 y hy) |> fun hsub => by
        have : ∀ (l1 l2 : List (List Int)), l1.Nodup → (∀ y ∈ l1, y ∈ l2) → l1.length ≤ l2.length := by
          intro l1
          induction l1 with
          | nil => intro l2 _ _; exact Nat.zero_le _
          | cons x l1 ih =>
            intro l2 hn hs
            have hx := hs x (List.mem_cons_self ..)
            rw [List.nodup_cons] at hn
            have hle := ih (l2.erase x) hn.2 (fun y hy => by
              refine (List.mem_erase_of_ne ?_).mpr (hs y (List.mem_cons_of_mem _ hy))
              rintro rfl
              exact hn.1 hy)
            rw [List.length_erase_of_mem hx] at hle
            have : 0 < l2.length := List.length_pos_of_mem hx
            rw [List.length_cons]
            omega
        exact this _ _ s1 s2
/-- a list of V that is a rearrangement -/
theorem paired_perm {F : V → α → Prop} {vs ws : List V} (hp : ws.Perm vs) : ∀ {xs : List α}, Paired F vs xs → ∃ ys, ys.Perm xs ∧ Paired F ws ys := by
  induction hp with
  | nil => intro xs h; cases h; exact ⟨[], .refl _, .nil⟩
  | cons v _ ih =>
    intro xs h
    cases h with
    | cons a t =>
      obtain ⟨ys, p, q⟩ := ih t
      exact ⟨_ :: ys, p.cons _, .cons a q⟩
  | swap v w l =>
    intro xs h
    cases h with
    | cons a t =>
      cases t with
      | cons b t => exact ⟨_, .swap _ _ _, .cons b (.cons a t)⟩
  | trans _ _ ih1 ih2 =>
    intro xs h
    obtain ⟨ys, p, q⟩ := ih2 h
    obtain ⟨zs, p2, q2⟩ := ih1 q
    exact ⟨zs, p2.trans p, q2⟩
/-- sorted(xs) -/
theorem e_sortU {te : TE} {xs : List (List Int)} {d : Nat} {B : Int} (h : D M te σ I H (dL (dT dI)) xs) (hl : xs.length < 64) (hx : ∀ x ∈ xs, x.length = d ∧ TS.Bd B x) :
    N M (tCB (rSortU K d B) (tCons te tNil)) σ I H (dL (dT dI)) (fun ys => ys.Perm xs ∧ ys.Pairwise (fun a b => HT.lexLt a b = true ∨ a = b)) := fun I1 H1 e c Q k =>
  h I1 H1 e c _ fun v I2 H2 e2 c2 ⟨a, vs, ev, ha, p⟩ => by
    refine ⟨a, vs, by rw [ev], SqL.mk' (e2.si _ _ ha), by rw [Paired.length p]; exact hl, fun u hu => ?_, fun ws pp perm pw hp => ?_⟩
    · obtain ⟨i, hi⟩ := List.mem_iff_getElem?.mp hu
      obtain ⟨x, h1, b, us, rfl, hb, pu⟩ := paired_get p hi
      have hm := List.mem_of_getElem? h1
      exact ⟨x, ⟨b, rfl, SqT.mk' (by rw [← paired_ints pu]; exact e2.si _ _ hb)⟩, hx x hm⟩
    · obtain ⟨ys, q1, q2⟩ := paired_perm perm p
      have f2 := Ex.new (m := no) (o := .lst ws) e2.si hp
      refine k (.ref pp) ys _ _ (e2.trans f2.of0) (M.st f2 c2) ⟨pp, ws, rfl, upd_same, paired_up q2 f2.ii⟩ ⟨q1, ?_⟩
      have hx' : ∀ y ∈ ys, y.length = d ∧ TS.Bd B y := fun y hy => hx y (q1.mem_iff.mp hy)
      have key : ∀ {ws : List V} {ys : List (List Int)}, Paired (dT dI I2) ws ys → (∀ y ∈ ys, y.length = d ∧ TS.Bd B y) → ws.Pairwise (fun x y => ∀ n m, TupI K H2 x n → TupI K H2 y m → TS.code B n ≤ TS.code B m) → ys.Pairwise (fun a b => HT.lexLt a b = true ∨ a = b) := fun h => by
        induction h with
        | nil => intro _ _; exact .nil
        | @cons x y xs ys hxy t ih =>
          intro hb pw
          rw [List.pairwise_cons] at pw ⊢
          refine ⟨fun z hz => ?_, ih (fun q hq => hb q (List.mem_cons_of_mem _ hq)) pw.2⟩
          obtain ⟨i, hi⟩ := List.mem_iff_getElem?.mp hz
          obtain ⟨u, h1, h2⟩ := paired_get' t hi
          have tup : ∀ {v : V} {ns : List Int}, dT dI I2 v ns → TupI K H2 v ns := fun ⟨b, us, e, hb, pu⟩ => ⟨b, e, SqT.mk' (by rw [← paired_ints pu]; exact e2.si _ _ hb)⟩
          have hc := pw.1 u (List.mem_of_getElem? h1) y z (tup hxy) (tup h2)
          have b1 := hb y (List.mem_cons_self ..)
          have b2 := hb z (List.mem_cons_of_mem _ hz)
          exact lex_code (by rw [b1.1, b2.1]) b1.2 b2.2 hc
      exact key q2 hx' pw
end
section
variable {X : Cx} (K : PySem.W.Frag) (P : Program) (w : World)
theorem ksetT (hc : X.calm = true) (hu : X.A.units + 64 < cLine) (h : X.K = K := by rfl) (h1 : X.prog = P := by rfl) (h2 : X.w = w := by rfl) : CallR X (.type "set") (rSetOfT K P w) := by subst h h1 h2; exact cr_setOfT hc hu
theorem ksortedT (hc : X.calm = true) (h : X.K = K := by rfl) (h1 : X.prog = P := by rfl) (h2 : X.w = w := by rfl) : CallR X (.builtin "sorted") (rSortedT K P w) := by subst h h1 h2; exact cr_sortedT hc
theorem ksortU {d : Nat} {B : Int} (hd : 1 ≤ d) (h : X.K = K := by rfl) : CallR X (.builtin "sorted") (rSortU K d B) := by subst h; exact cr_sortT hd
end
end DL

/-! list.count of flat values; a lambda with one default -/
namespace DL
open PySem PySem.Spec PyProof.Rows L2 RZ LamX
section
variable {X : Cx}
def rCntF (K : PySem.W.Frag) : V → List V → Hp → VK → Prop := fun x xs H Q => ∃ (p : Addr) (ys : List V) (y : V), x = .ref p ∧ xs = [y] ∧ SqL K H p ys ∧ flatV y = true ∧ ys.all flatV = true ∧ Q (.int (ys.countP fun z => eqV z y : Nat)) H
theorem countP_vals {y : V} : ∀ {ys : List V} {us : List Value}, Vals ys us → ys.all flatV = true → us.countP (eqU y) = ys.countP fun z => eqV z y
  | [], _, .nil, _ => rfl
  | z :: ys, u :: us, .cons r t, f => by
    have both := Bool.and_eq_true_iff.mp (List.all_cons.symm.trans f)
    have ih := countP_vals (y := y) t both.2
    rw [List.countP_cons, List.countP_cons, ih, eqU_of r both.1]
theorem mt_countF : MtR X "list.count" (rCntF X.K) := by
  intro ps s τ G x xs v us Q I rx rxs now
  obtain ⟨p, ys, y, rfl, rfl, hs, fy, fys, q⟩ := now
  cases rx
  cases rxs with
  | cons ry rt =>
    rename_i uy ut
    cases rt
    obtain ⟨its, rv, ⟨⟨cl, dc, dt, sl⟩, n, gp, c1, c2, c3⟩, _⟩ := I.list hs
    simp only at c1 c3
    subst c1 c3
    have isL := PySem.F.slot_list_count
    refine call_meets isL ⟨_, gp, rfl⟩ PySem.F.entry_list_count (PySem.F.args_list_count_2 _ _)
      (SeqAt.list_countAt p its.toArray n dc sl uy (eqU y)) ⟨gp, fun u' hu' => mem_eqAt ry fy rv fys u' (by simpa using hu'), ?_⟩
    have ec : its.toArray.toList.countP (eqU y) = ys.countP fun z => eqV z y := countP_vals rv fys
    refine ⟨.int (ys.countP fun z => eqV z y : Nat), G, I.tok _, ⟨s.toks, ?_⟩, q⟩
    show Value.int ((its.toArray.toList.countP (eqU y) : Nat) : Int) s.toks = Value.int ((ys.countP fun z => eqV z y : Nat) : Int) s.toks
    rw [ec]
end
section
variable (K : PySem.W.Frag) {X : Cx}
theorem kcountF (h : X.K = K := by rfl) : MtR X "list.count" (rCntF K) := by subst h; exact mt_countF
theorem kindexF (h : X.K = K := by rfl) : MtR X "list.index" (L2.rIndex K) := by subst h; exact L2.mt_index
end
end DL

/-! a lambda with one parameter that has a number as default, handed to a def. Its body runs in a frame of its own, as a nested def's would: the parameter, then the names it takes from outside. -/
namespace DL
open PySem PySem.Spec PySem.Calls PyProof.Rows L2 RZ LamX NdefX PySem.W
section
/-- one more code object in the table P -/
theorem tabs_add {T : List (Addr × Str)} {H : Hp} {P c : Addr} {q : Str} {ps : Array Value} {pos : Pos} (t : Tabs T H) (at_ : H P = some (.tbl ps)) (only : ∀ p ∈ T, p.1 = P → p.2 = q) (new : H c = none) :
    ExtN H (upd (upd H P (.tbl (ps ++ #[rawInt pos.line, rawInt pos.col, .ref c]))) c (CodeO c q)) ∧ Tabs T (upd (upd H P (.tbl (ps ++ #[rawInt pos.line, rawInt pos.col, .ref c]))) c (CodeO c q)) := by
  have nPc : P ≠ c := ne_of_none at_ new
  have ext : ExtN H (upd (upd H P (.tbl (ps ++ #[rawInt pos.line, rawInt pos.col, .ref c]))) c (CodeO c q)) := by
    intro b o hb plain
    have b1 : b ≠ c := ne_of_none hb new
    have b2 : b ≠ P := by
      rintro rfl
      exact plain ps (Option.some.inj (hb.symm.trans at_))
    rwa [upd_ne b1, upd_ne b2]
  refine ⟨ext, fun p hp => ?_⟩
  obtain ⟨rs, q1, q2, q3⟩ := t p hp
  have old : ∀ pos' cv, codeAmong pos' rs.toList = some cv → ∃ d, cv = .ref d ∧ upd (upd H P (.tbl (ps ++ #[rawInt pos.line, rawInt pos.col, .ref c]))) c (CodeO c q) d = some (CodeO d p.2) := fun pos' cv z => by
    obtain ⟨d, ed, hd⟩ := q3 pos' cv z
    exact ⟨d, ed, ext _ _ hd codeO_ne⟩
  rcases Decidable.em (p.1 = P) with e | e
  · have er : rs = ps := by
      rw [e, at_] at q1
      cases q1
      rfl
    subst er
    have lst : (rs ++ #[rawInt pos.line, rawInt pos.col, Value.ref c]).toList = rs.toList ++ [rawInt pos.line, rawInt pos.col, Value.ref c] := by simp
    refine ⟨rs ++ #[rawInt pos.line, rawInt pos.col, .ref c], ?_, lst ▸ PySem.TriplesOk_snoc _ _ _ _ q2, fun pos' cv z => ?_⟩
    · rw [e, upd_ne nPc, upd_same]
    · rw [lst] at z
      exact (among_app _ q2 z).elim (old pos' cv) fun ec => ⟨c, ec, by rw [only p hp e, upd_same]⟩
  · have b1 : p.1 ≠ c := ne_of_none q1 new
    exact ⟨rs, by rw [upd_ne b1, upd_ne e]; exact q1, q2, old⟩
end
section
variable {X : Cx} {pins : List (Addr × Obj)} {σ : L2.St} {H : Hp} {s : Shared}
/-- the lambda's function object at f, its default's tuple, its code object -/
structure LamAt (st : List Env) (q : Str) (params : Arguments) (body : Expr) (scope : Scope) (cl : List (Str × Addr)) (n : Int) (f c : Addr) (H : Hp) (s : Shared) : Prop where
  code : H c = some (CodeO c q)
  fnew : H f = none
  foff : f ∉ frs st
  fun_ : ∃ (d : Addr) (u doc pm ct : Value), s.heap.get? f = some (kdv_obj "<lambda>" q params (.expr body) scope cl (.ref d) doc pm c ct) ∧ RelV (.int n) u ∧ s.heap.get? d = some (kdv_tup [u]) ∧ H d = none ∧ d ∉ frs st
/-- the lambda is made -/
theorem lam_makeD {T : List (Addr × Str)} {c P : Addr} {params : Arguments} {body e1 : Expr} {scope : Scope} {pos : Pos} {Q : Value → Shared → Prop} {n : Int} (I : Inv X pins σ H s) (TB : TabB X.base X.mg c P) (hcode : X.env.code = .ref c)
    (member : (P, X.env.qual ++ "<lambda>") ∈ T) (only : ∀ p ∈ T, p.1 = P → p.2 = X.env.qual ++ "<lambda>") (tabs : Tabs T H) (one : defaultsOf params X.env = ([eval e1 X.env], [])) (he : PE X e1 (tC (.int n))) (has : ∀ y ∈ scope.names, y.2 = .free → ∃ c, X.env.cells.lookup y.1 = some c)
    (nokw : params.kwonlyargs = [])
    (next : ∀ (f c' : Addr) (H1 : Hp) (s' : Shared), Inv X pins σ H1 s' → ExtN H H1 → Tabs T H1 → LamAt X.stack (X.env.qual ++ "<lambda>") params body scope (cloFrom X.env.cells scope.names []) n f c' H1 s' → Q (.ref f) s') :
    wpAny (model X.prog X.w) X.A (eval (.Lambda params body scope pos) X.env) Q X.xe s := by
  have make : ∀ (u : Value) (t : Shared), Inv X pins σ H t → RelV (.int n) u → wpAny (model X.prog X.w) X.A (makeFunction "<lambda>" (X.env.qual ++ "<lambda>") params (.expr body) scope X.env [u] [] [] pos pos.line) Q X.xe t := by
    intro u t J ru
    obtain ⟨ps, at_, triples, among⟩ := tabs _ member
    have off : ∀ d, t.heap.objs.size ≤ d → d ∉ frs X.stack := fun d hd z => (List.mem_cons.mp (J.stkSub _ z)).elim (fun e => Nat.not_le_of_lt J.lt (e ▸ hd)) (J.nofs hd)
    have up : ∀ b o, t.heap.get? b = some o → (t.heap.push (kdv_tup [u])).get? b = some o := fun b o => Heap.get?_push_of_some _
    have tup : (t.heap.push (kdv_tup [u])).get? t.heap.objs.size = some (kdv_tup [u]) := Heap.get?_push_size _ rfl
    have size : (t.heap.push (kdv_tup [u])).objs.size = t.heap.objs.size + 1 := Heap.size_push ..
    have tab : t.heap.get? P = some { cls := .none, data := .fields ps } := J.hok P _ at_
    have tabLt := Heap.lt_size tab
    have tupNe : t.heap.objs.size ≠ P := Nat.ne_of_gt tabLt
    have tupNew : H t.heap.objs.size = none := J.hok.fresh (Nat.le_refl _)
    have blt : t.heap.BuiltinsAt X.mg P := TB.bm.keeps J.bk
    have cod : CodeHd (t.heap.push (kdv_tup [u])) c P := (TB.code.keeps J.bk).keeps up
    have glb : (t.heap.push (kdv_tup [u])).Ns mainGlobals X.mg := (J.mod.glob.keeps J.bk).push _
    rw [makeFunction_eq]
    simp only [nokw, List.zip_nil_left, List.zip_nil_right, List.filterMap_nil, List.isEmpty_nil, List.isEmpty_cons, if_true, Bool.false_eq_true, if_false, pure_bind]
    apply wpAny_bind
    apply wpAny_newTextTuple
    rcases found : codeAmong pos ps.toList with _ | cv
    · refine kdv_makeTail (mg := X.mg) (c := c) (ps := ps) (closure_ok has) J.ok.glob glb hcode cod (up _ _ tab) triples found TB.gP (blt.keeps up) fun c' ct doc g tk but above below rec' wr => ?_
      rw [size] at above
      have cAbove : t.heap.objs.size ≤ c' := Nat.le_of_succ_le above
      have gAbove : t.heap.objs.size ≤ g.objs.size := Nat.le_trans cAbove (Nat.le_of_lt below)
      have cNew : H c' = none := J.hok.fresh cAbove
      have now : ∀ d, t.heap.objs.size ≤ d → d ≠ c' → upd (upd H P (.tbl (ps ++ #[rawInt pos.line, rawInt pos.col, .ref c']))) c' (CodeO c' (X.env.qual ++ "<lambda>")) d = none := fun d hd dc => by
        have dP : d ≠ P := Nat.ne_of_gt (Nat.lt_of_lt_of_le tabLt hd)
        rw [upd_ne dc, upd_ne dP]
        exact J.hok.fresh hd
      obtain ⟨x, oc, vs, tok, ex, goc, dat, nm⟩ := rec'
      cases ex
      obtain ⟨ext, tabs'⟩ := tabs_add (pos := pos) tabs at_ only cNew
      have J' := inv_table (t' := tk) (h' := g.push (kdv_obj "<lambda>" (X.env.qual ++ "<lambda>") params (.expr body) scope (cloFrom X.env.cells scope.names []) (.ref t.heap.objs.size) doc ((X.mg "__name__").getD .none) c' ct)) J at_
        (fun b o hb z => Heap.get?_push_of_some _ (but b o hb (up b o z))) (Heap.get?_push_of_some _ wr) cAbove ⟨oc, vs, tok, Heap.get?_push_of_some _ goc, dat, nm⟩
      exact next _ c' _ _ J' ext tabs' ⟨upd_same, now _ gAbove (Nat.ne_of_gt below), off _ gAbove, _, u, doc, _, ct, Heap.get?_push_size _ rfl, ru, Heap.get?_push_of_some _ (but _ _ tupNe tup), now _ (Nat.le_refl _) (Nat.ne_of_lt above), off _ (Nat.le_refl _)⟩
    · obtain ⟨c', e, known⟩ := among pos cv found
      subst e
      refine kdv_makeTailHit (mg := X.mg) (c := c) (P := P) (ps := ps) (closure_ok has) J.ok.glob glb hcode cod (up _ _ tab) triples found (blt.keeps up) fun ct doc g tk more grown => ?_
      rw [size] at grown
      have gAbove := Nat.le_of_succ_le grown
      have J' : Inv X pins σ H { t with heap := g.push (kdv_obj "<lambda>" (X.env.qual ++ "<lambda>") params (.expr body) scope (cloFrom X.env.cells scope.names []) (.ref t.heap.objs.size) doc ((X.mg "__name__").getD .none) c' ct), toks := tk } :=
        J.kept fun b o z => Heap.get?_push_of_some _ (more b o (up b o z))
      exact next _ c' H _ J' (ExtN.refl H) tabs ⟨known, J.hok.fresh gAbove, off _ gAbove, _, u, doc, _, ct, Heap.get?_push_size _ rfl, ru, Heap.get?_push_of_some _ (more _ _ tup), tupNew, off _ (Nat.le_refl _)⟩
  rw [arm_eval_Lambda, one]
  show wpAny _ _ (do let dv ← evalAll [eval e1 X.env]; let kd ← holding dv (evalAllOpt []); makeFunction "<lambda>" (X.env.qual ++ "<lambda>") params (.expr body) scope X.env dv kd [] pos pos.line) Q X.xe s
  have dflt := he.run pins s σ H (fun v G => v = .int n ∧ G = H) I ⟨rfl, rfl⟩
  exact wpAny_bind (wpAny_evalAll_cons (thn dflt fun u t ⟨v, G, J, ru, ev, eG⟩ => wpAny_evalAll_nil (wpAny_bind (wpAny_holding (wpAny_pure (make u t (eG ▸ J) (ev ▸ ru)))))))
/-- what the captured cells held they hold while other frames run -/
theorem cells_still {fs : List Addr} {H1 : Hp} {h h1 : Heap} {cl : List (Str × Addr)} {fr : List Str} {ws : List (Option V)} (un : Un fs [] H H1 h h1) (C : CellsAt cl fr ws h H) : CellsAt cl fr ws h1 H1 := by
  have mv : ∀ {c : Addr} {v : Option Value}, H c = none → h.IsCell c v → h1.IsCell c v ∧ H1 c = none := fun {c v} new z => by
    obtain ⟨o, ho, hd⟩ := z
    obtain ⟨sl, q⟩ := un.any ho new nofun
    exact ⟨⟨_, q, hd⟩, un.free c o ho new nofun⟩
  refine ⟨C.len, fun y c ec => ?_, C.inj, fun i y ey => ?_⟩
  · obtain ⟨new, v, z⟩ := C.all y c ec
    exact ⟨(mv new z).2, v, (mv new z).1⟩
  · obtain ⟨c, e1, hv⟩ := C.has i y ey
    exact ⟨c, e1, fun v ev => (hv v ev).imp fun u q => ⟨q.1, (mv (C.all y c e1).1 q.2).1⟩⟩
/-- the lambda as a function with the names a0, then fr -/
abbrev lamF (q : Str) (params : Arguments) (scope : Scope) (cl : List (Str × Addr)) (c : Addr) : NF := ⟨"<lambda>", q, params, [], scope, cl, c⟩
/-- its body runs here -/
abbrev lamX (X : Cx) (N : List Str) (params : Arguments) (scope : Scope) (f c : Addr) (A : Around) (outer : List Env) (s : Shared) (H : Hp) (E : XK) : Cx :=
  ncx (L2.CX X.prog X.w) X.prog X.w X.K X.mg X.base N (lamF (X.env.qual ++ "<lambda>") params scope (cloFrom X.env.cells scope.names []) c) f A outer s H E
/-- bound without an argument: a0 gets the default -/
def Dflt (params : Arguments) (body : Expr) (scope : Scope) (a0 : Str) : Prop :=
  ∀ (q : Str) (cl : List (Str × Addr)) (doc pm cv ct : Value) (d : Addr), ∃ kk, bindArgs (kdv_fn "<lambda>" q params (.expr body) scope cl (.ref d) doc pm cv ct) ⟨[], []⟩ = seqItems? (.ref d) >>= kk ∧ ∀ u, kk (some #[u]) = pure [(a0, u)]
/-- the lambda runs: A, outer those around the call, H and s at the call -/
theorem lam_run {N fr : List Str} {ws : List (Option V)} {a0 : Str} {params : Arguments} {body : Expr} {scope : Scope} {n : Int} {f c : Addr} {A : Around} {outer : List Env} {E : XK} {Q : VK} {k : Nat} {tb : TE} {st : List Env}
    (S : NScope N [a0] fr scope) (L : LamAt st (X.env.qual ++ "<lambda>") params body scope (cloFrom X.env.cells scope.names []) n f c H s) (C : CellsAt (cloFrom X.env.cells scope.names []) fr ws s.heap H) (B : Dflt params body scope a0)
    (e0 : Env0 X.prog X.w X.K X.mg X.base A outer s H) (hr : Room (k + 1) A)
    (hbody : ∀ (A : Around) (outer : List Env) (s : Shared) (H : Hp), Room k (A.deeper (envF (lamF (X.env.qual ++ "<lambda>") params scope (cloFrom X.env.cells scope.names []) c) f s.heap.objs.size)) → PE (lamX X N params scope f c A outer s H E) body tb)
    (now : tb (startF N [.int n] ws) H Q) : codeAny (model X.prog X.w) A (.call (.ref f) ⟨[], []⟩) (CR (L2.CX X.prog X.w) outer X.prog X.w H s Q E) s := by
  obtain ⟨d, u, doc, pm, ct, gf, ru, gd, _, _⟩ := L.fun_
  obtain ⟨kk, b1, b2⟩ := B (X.env.qual ++ "<lambda>") (cloFrom X.env.cells scope.names []) doc pm (.ref c) ct d
  have lim : s.heap.NoLimit := e0.mod.nolimit.keeps fun b o z => (e0.bs b o z).1
  apply kla_callFunE hr.depth gf rfl S.co S.gen rfl (codeO_at e0.hok L.code)
  rw [b1]
  refine wpAny_bind (wpAny_seqItems gd rfl ?_)
  rw [show (some (List.toArray [u])) = some #[u] from rfl, b2]
  refine wpAny_pure (wpAny_newFunctionEnv S.nocell (fun y hy => ?_) (fun g ns but => ⟨lim.fresh _ but, ?_⟩) S.kind)
  · rw [List.mem_singleton.mp hy]
    exact S.par a0 (List.mem_singleton.mpr rfl)
  · have keeps : ∀ b o, s.heap.get? b = some o → g.get? b = some o := fun b o z => but.extBut b o (Nat.ne_of_lt (Heap.lt_size z)) (Heap.get?_push_of_some _ z)
    have J := inv_startN (CX := L2.CX X.prog X.w) (E := E) (f := f) (h₁ := g) (tk := s.toks + ([(a0, u)] : List (Str × Value)).length) (F := lamF (X.env.qual ++ "<lambda>") params scope (cloFrom X.env.cells scope.names []) c) (us := [u]) S hr.hd e0 rfl (.cons ru .nil) C ns keeps
    have run := (hbody A outer s H (hr.deeper _)).run [] _ _ H Q J now
    exact kla_codeExpr (wpAny_mono run (fun v t ⟨w', G, J', rv, q⟩ => ⟨w', G, J'.os, J'.bare, J'.base, J'.hok, rv, q⟩) fun _ _ z => z)
/-- x(), in the def that got the lambda at s -/
theorem pe_actD {CXg : CXT} {Eg : XK} {Ng : List Str} {qg : Str} {sg : Scope} {g f c' : Addr} {cdg : Value} {params : Arguments} {body : Expr} {scope : Scope} {k i : Nat} {a a0 : Str} {pn : List (Addr × Obj)} {xe : Value → Shared → Prop} {W : WX} {E : XK} {tb : TE} {p1 p2 : Pos} {n : Int} {N fr : List Str} {ws : List (Option V)}
    (S : NScope N [a0] fr scope) (B : Dflt params body scope a0) (L : LamAt X.stack (X.env.qual ++ "<lambda>") params body scope (cloFrom X.env.cells scope.names []) n f c' H s) (C : CellsAt (cloFrom X.env.cells scope.names []) fr ws s.heap H)
    (takes : Takes ((cxOf CXg X.prog X.w X.K X.mg X.base Ng qg sg g cdg X.A X.stack s H Eg).tr pn xe) W) (sub : ∀ cls d σ' H', E cls d H' → W cls d σ' H') (room : Room (k + 1) (X.A.deeper (envOfC qg sg s.heap.objs.size g cdg)))
    (hbody : ∀ (A : Around) (outer : List Env) (s : Shared) (H : Hp), Room k (A.deeper (envF (lamF (X.env.qual ++ "<lambda>") params scope (cloFrom X.env.cells scope.names []) c') f s.heap.objs.size)) → PE (lamX X N params scope f c' A outer s H E) body tb)
    (atN : Ng[i]? = some a) (seen : Vis sg a) (d1 : (a == ("__debug__" : Str)) = false := by decide) (d2 : (a == ("__classdict__" : Str)) = false := by decide) :
    PE ((cxOf CXg X.prog X.w X.K X.mg X.base Ng qg sg g cdg X.A X.stack s H Eg).tr pn xe) (.Call (.Name a p1) [] [] p2)
      fun σ' H' Q => σ'[i]? = some (some (.ref f)) ∧ H' c' = some (CodeO c' (X.env.qual ++ "<lambda>")) ∧ tb (startF N [.int n] ws) H' Q where
  run ps t τ G Q J h := by
    obtain ⟨slot, known, now⟩ := h
    have name := (pe_var (pos := p1) (i := i) atN seen d1 d2).run ps t τ G (fun v G' => v = .ref f ∧ G' = G) J ⟨.ref f, slot, rfl, rfl⟩
    refine wpAny_Call_Name_kw (thn name fun u t1 ⟨v, G1, J1, ru, ev, eG⟩ => ?_)
    subst ev eG
    have eu : u = Value.ref f := ru
    subst eu
    obtain ⟨d, u, doc, pm, ct, gf, r, gd, nd, od⟩ := L.fun_
    have un : Un (frs X.stack) [] H G1 s.heap t1.heap := J1.base
    have gf1 := un.keep f _ gf L.fnew L.foff nofun
    have L1 : LamAt X.stack (X.env.qual ++ "<lambda>") params body scope (cloFrom X.env.cells scope.names []) n f c' G1 t1 := ⟨known, un.free f _ gf L.fnew nofun, L.foff, d, u, doc, pm, ct, gf1, r, un.keep d _ gd nd od nofun, un.free d _ gd nd nofun, od⟩
    have rc : codeAny (model X.prog X.w) (X.A.deeper (envOfC qg sg s.heap.objs.size g cdg)) (.call (.ref f) ⟨[], []⟩) (CR (L2.CX X.prog X.w) (envOfC qg sg s.heap.objs.size g cdg :: X.stack) X.prog X.w G1 t1 Q E) t1 := lam_run S L1 (cells_still un C) B J1.env0 room hbody now
    have err : Passes (L2.CX X.prog X.w) ((cxOf CXg X.prog X.w X.K X.mg X.base Ng qg sg g cdg X.A X.stack s H Eg).tr pn xe) E := passes_call takes sub
    refine callWith_F0 ⟨_, _, _, _, gf1⟩ (wpAny_call (codeAny_mono rc fun r t2 z => ?_))
    match r, z with
    | .ok (.ret w), z => exact J1.after z
    | .error e, z => exact err ps τ G1 t1 e t2 J1 z
/-- x(lambda a0=n: body); js: where the captured names stand among the def's own -/
theorem pe_lamcallD {T : List (Addr × Str)} {TT : (XK → Hp → VK → Prop) → Hp → VK → Prop} {x a a0 : Str} {g c P : Addr} {k : Nat} {pg : Arguments} {bg : List Stmt} {sg : Scope} {dV kV doc pm cdv ct oc : Value} {an od : Option Addr} {osl : Array (Option Value)} {Ng : List Str}
    {params : Arguments} {body e1 : Expr} {scope : Scope} {n : Int} {t : XK → TE} {p lpos pos : Pos} {N fr : List Str} {js : List Nat} (glob : Gl X x) (inMg : X.mg x = some (.ref g)) (keep : keepIn X.K (.ref g) = true)
    (lk : X.K.lookup g = some ⟨oc, od, .func (fnOf x x pg bg sg dV kV doc pm an cdv ct), osl⟩) (cod : codeIn X.K cdv x = true) (binds : L2.Binds X.K (fnOf x x pg bg sg dV kV doc pm an cdv ct) [a] []) (Sg : FnScope Ng [a] sg) (a1 : Ng[0]? = some a) (a2 : Vis sg a)
    (gives : GivesTo X Ng x sg g cdv bg a (X.env.qual ++ "<lambda>") TT)
    (TB : TabB X.base X.mg c P) (hcode : X.env.code = .ref c) (member : (P, X.env.qual ++ "<lambda>") ∈ T) (only : ∀ p ∈ T, p.1 = P → p.2 = X.env.qual ++ "<lambda>") (room : Room (k + 2) X.A) (S : NScope N [a0] fr scope) (capt : ndefB X.env.scope scope fr = true) (hjs : js.map (fun j => X.N[j]?) = fr.map some)
    (one : defaultsOf params X.env = ([eval e1 X.env], [])) (he1 : PE X e1 (tC (.int n))) (nokw : params.kwonlyargs = []) (B : Dflt params body scope a0)
    (hbody : ∀ (A : Around) (outer : List Env) (s : Shared) (H : Hp) (E : XK) (f c' : Addr), Room k (A.deeper (envF (lamF (X.env.qual ++ "<lambda>") params scope (cloFrom X.env.cells scope.names []) c') f s.heap.objs.size)) → PE (lamX X N params scope f c' A outer s H E) body (t E))
    (x1 : (x == ("__debug__" : Str)) = false := by decide) (d1 : (a == ("__debug__" : Str)) = false := by decide) (d2 : (a == ("__classdict__" : Str)) = false := by decide) :
    PE X (.Call (.Name x p) [.Lambda params body scope lpos] [] pos) (tLam T TT fun E σ => t E (startF N [.int n] (js.map (slotAt σ)))) where
  run pins s σ H Q I h := by
    have has : ∀ y ∈ scope.names, y.2 = .free → ∃ d, X.env.cells.lookup y.1 = some d := fun y m e => I.ok.has _ (ndef_free capt y m e)
    have caps := Caps.made I.ok (ndef_free capt) (ndef_fr capt) hjs
    have call_g : ∀ (f c' : Addr) (H1 : Hp) (s1 : Shared), Inv X pins σ H1 s1 → ExtN H H1 → Tabs T H1 → LamAt X.stack (X.env.qual ++ "<lambda>") params body scope (cloFrom X.env.cells scope.names []) n f c' H1 s1 →
        wpAny (model X.prog X.w) X.A (call (.ref g) [.ref f]) (EP X pins σ Q) X.xe s1 := fun f c' H1 s1 J ext tabs' L => by
      have rc := run_ofS (CX := C8.CX0) (E := C8.E0) (Q := Q) (N := Ng) (ps := [a]) (vs := [.ref f]) lk cod Sg room J.env0 (binds s1 [.ref f] J.kIn rfl) (.cons rfl .nil) rfl fun deeper => by
        obtain ⟨t', run, now⟩ := gives f c' s1 H1 Q (fun E H' Q' => t E (startF N [.int n] (js.map (slotAt σ))) H' Q') (fun W pn xe E p1 p2 takes sub => pe_actD (i := 0) S B L (cells_of J caps) takes sub deeper (fun A outer s H r => hbody A outer s H E f c' r) a1 a2 d1 d2) L.code (h.2 H1 ext tabs')
        exact ⟨t', run.nox, now⟩
      refine wpAny_call (codeAny_mono rc fun r t z => ?_)
      match r, z with
      | .ok (.ret u), z => exact J.after z
    refine wpAny_Call_Name_kw (ld_glob I glob inMg (callWith_K (h₀ := X.base) I.ok.mod.kin keep ?_ (by rfl) (by rfl)) x1)
    exact Calls.spliced_cons (lam_makeD I TB hcode member only h.1 one he1 has nokw fun f c' H1 s1 J ext tabs' L => Calls.spliced_nil ⟨J.kIn, call_g f c' H1 s1 J ext tabs' L⟩)
end
end DL

/-! what is left of I without the tables; things picked from lists of any data -/
namespace DL
open PySem PySem.Spec PyProof.Rows L2 RZ LamX
/-- I without the tables of code objects -/
def cln (I : Hp) : Hp := fun b => match I b with
  | some (.tbl _) => none
  | o => o
theorem cln_sub {I : Hp} : Sub (cln I) I := fun b o h => by
  unfold cln at h
  split at h
  · cases h
  · exact h
theorem cln_at {I : Hp} {b : Addr} {o : HO} (h : I b = some o) (n : ∀ ps, o ≠ .tbl ps) : cln I b = some o := by
  unfold cln
  split
  · rename_i ps e
    rw [h] at e
    exact absurd (Option.some.inj e) (n ps)
  · exact h
theorem cln_none {I : Hp} {b : Addr} (h : I b = none) : cln I b = none := by
  unfold cln
  rw [h]
theorem cln_not {I : Hp} {b : Addr} {ps : Array Value} : cln I b ≠ some (.tbl ps) := fun h => by
  unfold cln at h
  split at h
  · cases h
  · rename_i n
    exact n ps h
class Cl {α : Type} (R : Rel α) : Prop where
  up : ∀ {I : Hp} {v : V} {x : α}, R I v x → R (cln I) v x
instance : Cl dI := ⟨fun h => h⟩
instance : Cl dB := ⟨fun h => h⟩
instance : Cl dS := ⟨fun h => h⟩
instance : Cl dW := ⟨fun {I v x} h => by
  cases x with
  | lst => obtain ⟨a, vs, e, h⟩ := h; exact ⟨a, vs, e, cln_at h fun _ z => nomatch z⟩
  | tup => obtain ⟨a, vs, e, h⟩ := h; exact ⟨a, vs, e, cln_at h fun _ z => nomatch z⟩
  | _ => exact h⟩
section
variable {α β : Type}
theorem paired_cl {R : Rel α} [Cl R] {I : Hp} {vs : List V} {xs : List α} (h : Paired (R I) vs xs) : Paired (R (cln I)) vs xs := by
  induction h with
  | nil => exact .nil
  | cons a _ ih => exact .cons (Cl.up a) ih
instance {R : Rel α} [Cl R] : Cl (dT R) := ⟨fun ⟨a, vs, e, h, p⟩ => ⟨a, vs, e, cln_at h (fun _ z => nomatch z), paired_cl p⟩⟩
instance {R : Rel α} [Cl R] : Cl (dL R) := ⟨fun ⟨a, vs, e, h, p⟩ => ⟨a, vs, e, cln_at h (fun _ z => nomatch z), paired_cl p⟩⟩
instance {R : Rel α} {S : Rel β} [Cl R] [Cl S] : Cl (dP R S) := ⟨fun ⟨a, x, y, e, h, p, q⟩ => ⟨a, x, y, e, cln_at h (fun _ z => nomatch z), Cl.up p, Cl.up q⟩⟩
end
theorem Sub.extN {I H H' : Hp} (s : Sub (cln I) H) (e : ExtN H H') : Sub (cln I) H' := fun b o h => e b o (s b o h) fun ps z => by
  rw [z] at h; exact cln_not h
theorem tabs_ex {T : List (Addr × Str)} {hp c : Addr} {h : Hand} {I H I' H' : Hp} (t : Tabs T H) (cc : HC hp c h I H) (e : Ex (HM hp c).m I H I' H') : Tabs T H' := fun p hp' => by
  obtain ⟨ps, h1, h2, h3⟩ := t p hp'
  have ne : ∀ {b : Addr} {o : HO}, H b = some o → (∀ xs, o ≠ .lst xs) → ¬ (HM hp c).m b := fun {b o} hb n z => by
    have z : b = hp := z
    rw [z, cc.1] at hb
    exact n _ (Option.some.inj hb).symm
  refine ⟨ps, e.kp _ _ (ne h1 fun _ z => nomatch z) h1, h2, fun pos cv hc => ?_⟩
  obtain ⟨c0, e1, e2⟩ := h3 pos cv hc
  exact ⟨c0, e1, e.kp _ _ (ne e2 fun _ z => nomatch z) e2⟩
theorem tabs_none {T : List (Addr × Str)} {m : Addr → Prop} {I H I' H' : Hp} (t : Tabs T H) (n : ∀ p ∈ T, I p.1 = none) (e : Ex m I H I' H') : ∀ p ∈ T, I' p.1 = none := fun p hp => e.out (n p hp) (by
  obtain ⟨ps, h1, _⟩ := t p hp
  rw [h1]; simp)
section
variable {α β γ : Type} {M : Mode} {σ : L2.St} {I H : Hp} {K : PySem.W.Frag}
theorem n_tupl {R : Rel α} {ta : TA} {P : List α → Prop} (h : NA M ta σ I H (aAll R) P) (hz : ∀ xs, P xs → xs.length ≤ sizeLine) [Mono R] : N M (tTup ta) σ I H (dT R) P := fun I1 H1 e c Q k =>
  h I1 H1 e c _ fun vs xs I2 H2 e2 c2 r p => ⟨by rw [Paired.length r]; exact hz xs p, fun a ha =>
    have x := Ex.new (m := no) (o := .tup vs) e2.si ha
    k _ xs _ _ (e2.trans x.of0) (M.st x c2) ⟨a, vs, rfl, upd_same, paired_up r x.ii⟩ p⟩
theorem dpS {K : PySem.W.Frag} {H : Hp} : ∀ xs : List Str, DpAll K H (xs.map V.str) (xs.map PyData.str)
  | [] => .nil
  | x :: xs => .cons (.str x) (dpS xs)
theorem paired_strs {I : Hp} : ∀ {vs : List V} {xs : List Str}, Paired (dS I) vs xs → vs = xs.map V.str
  | _, _, .nil => rfl
  | _, _, .cons h t => by
    have h' : _ = V.str _ := h
    rw [h', paired_strs t]; rfl
/-- == of two lists of texts -/
theorem e_eqS {ta tb : TE} {xs ys : List Str} (ha : D M ta σ I H (dL dS) xs) (hb : D M tb σ I H (dL dS) ys) (sx : SeqAt.shaped (.list (xs.map .str)) = true) (sy : SeqAt.shaped (.list (ys.map .str)) = true) : D M (tOp (rEqD K) ta tb) σ I H dB (PyData.eqv (.list (xs.map .str)) (.list (ys.map .str))) := fun I1 H1 e c Q k =>
  ha I1 H1 e c _ fun v I2 H2 e2 c2 ⟨a, vs, ev, h1, p⟩ => hb I2 H2 (e.trans e2) c2 _ fun w I3 H3 e3 c3 ⟨b, ws, ew, h2, p2⟩ => by
    have := paired_strs p
    subst this
    have := paired_strs p2
    subst this
    rw [ev, ew]
    exact ⟨_, _, .lst (SqL.mk' (e3.si _ _ (e3.ii _ _ h1))) (dpS xs), .lst (SqL.mk' (e3.si _ _ h2)) (dpS ys), sx, sy, k _ I3 H3 (e2.trans e3) c3 rfl⟩
end
end DL

/-! dicts by tuples of ints while they are written, and read by a loop; lists that are read while they are written -/
namespace DL
open PySem PySem.Spec PyProof.Rows L2 RZ
/-- some ints as a key -/
def kI (ks : List Int) : List L2.Key := ks.map Sum.inl
theorem kI_V (ks : List Int) : (kI ks).map kV = ks.map V.int := by unfold kI; rw [List.map_map]; rfl
theorem kI_inj {a b : List Int} (h : kI a = kI b) : a = b := by
  induction a generalizing b with
  | nil => cases b with
    | nil => rfl
    | cons _ _ => cases h
  | cons x a ih => cases b with
    | nil => cases h
    | cons y b =>
      have h' : (Sum.inl x : L2.Key) :: kI a = Sum.inl y :: kI b := h
      rw [List.cons.injEq] at h'
      rw [ih h'.2, Sum.inl.inj h'.1]
theorem units1 {n : Nat} (h : n + 64 < cLine) : n + 1 < cLine := by omega
/-! ### {k: v} -/
def tDisp1 (tk tv : TE) : TE := fun σ H Q => ∀ p, H p = none → tk σ (upd H p (.dT [])) fun x H1 => tv σ H1 fun y H2 => H2 p = some (.dT []) ∧ ∃ b ks, x = .ref b ∧ H2 b = some (.tup (ks.map kV)) ∧ Q (.ref p) (upd H2 p (.dT [(ks, y)]))
theorem pe_disp1 {X : Cx} {k v : Expr} {pos : Pos} {tk tv : TE} (hu : X.A.units + 1 < cLine) (hk : PE X k tk) (hv : PE X v tv) : PE X (.Dict [some k] [v] pos) (tDisp1 tk tv) where
  run pins s σ H Q I q := by
    have new := I.hok.fresh (Nat.le_refl s.heap.objs.size)
    have I0 := I.laid (a := s.heap.objs.size) (o := .dT []) (h' := s.heap.push { cls := .type "dict", data := .dict #[] }) (t' := s.toks) (fun _ _ z => Heap.get?_push_of_some _ z) (Nat.le_refl _) (dt_empty s.heap I.big)
    rw [arm_eval_Dict, zip_pairTrees [some k] [v] X.env pos rfl rfl, dictDisplay_pairs _ (by intro z; cases z) (by simp [pairTrees])]
    have pair : wpAny (model X.prog X.w) X.A (evalPairs (pairTrees [some k] [v] X.env pos)) (fun vs s1 => ∃ ps, CarriesH (tupleKind (mixKind X.prog X.w)) s1.heap vs ps ∧ s1.heap.DictOfH (tupleKind (mixKind X.prog X.w)) s.heap.objs.size [] ∧
        ∀ h' tk, h'.DictOfH (tupleKind (mixKind X.prog X.w)) s.heap.objs.size (storedAllH [] ps) → Heap.SameBut s.heap.objs.size s1.heap h' → wpAny (model X.prog X.w) X.A (pure (Value.ref s.heap.objs.size)) (EP X pins σ Q) X.xe { s1 with heap := h', toks := tk }) X.xe
        { s with heap := s.heap.push { cls := .type "dict", data := .dict #[] } } := by
      refine pairTrees_cons_walk (thn (hk.run pins _ σ _ _ I0 (q _ new)) fun u s1 ⟨x, H1, I1, rx, q1⟩ => thn (hv.run pins s1 σ H1 _ I1 q1) fun r s2 ⟨y, H2, I2, ry, hd, b, ks, ex, hb, q2⟩ => pairTrees_nil_walk ?_)
      subst ex
      have eu : u = Value.ref b := rx
      subst eu
      obtain ⟨z, ns, xs, rel, dd⟩ := dt_of I2.hok hd
      cases rel
      refine ⟨[(ks, b, r)], ⟨rfl, rfl, key_of I2.hok hb, True.intro⟩, dd, fun h' tk dd' same => wpAny_pure ⟨.ref s.heap.objs.size, _, ?_, rfl, q2⟩⟩
      obtain ⟨o, es, ep, ho, c1, c2, c3, _, c4⟩ := dd'
      have kt : KT (upd H2 s.heap.objs.size (.dT [(ks, y)])) [(ks, y)] [(ks, b, r)] := .cons ⟨rfl, by rw [upd_ne (ne_of hb hd (fun z => nomatch z))]; exact hb, ry⟩ .nil
      exact d_write I2 (by rw [hd]; exact True.intro) same ⟨o, ho⟩ ⟨by rw [sizeLine_eq]; simp, ns, _, kt, o, es, ep, ho, c1, c2, c3, c4⟩
    exact wpAny_bind (wpAny_standAt (wpAny_bind (wpAny_subDictH (knd := tupleKind (mixKind X.prog X.w)) (Q := fun d s' => wpAny (model X.prog X.w) X.A (pure (Value.ref d)) (EP X pins σ Q) X.xe s') (show X.A.units < cLine from Nat.lt_of_succ_lt hu) (by simp [pairTrees]) pair)))
section
variable {α β γ : Type} {M : Mode} {σ : L2.St} {I H : Hp} {K : PySem.W.Frag} {a : Addr} {j : Nat} {ty tv tb : TE} {kvs : List (List L2.Key × V)} {ks : List Int}
theorem tup_key {I H : Hp} {v : V} (h : dT dI I v ks) (s : Sub I H) : ∃ b, v = .ref b ∧ H b = some (.tup ((kI ks).map kV)) := by
  obtain ⟨b, vs, e, hb, p⟩ := h
  have ev := paired_ints p
  subst ev
  exact ⟨b, e, by rw [kI_V]; exact s _ _ hb⟩
/-- a new dict with one entry -/
theorem s_asgD {tk : TE} {i : Nat} {E : Ends} {R : Rel α} [Mono R] {x : α} (dk : D M tk σ I H (dT dI) ks) (dv : D M tv σ I H R x) (s : Sub I H) (c : M.C I H)
    (k : ∀ p v I1 H1, Ex M.m I H I1 H1 → M.C I1 H1 → H p = none → I1 p = none → H1 p = some (.dT [(kI ks, v)]) → R I1 v x → E.nx (σ.set i (some (.ref p))) H1) : tAsg (tDisp1 tk tv) (gName i) E σ H := by
  intro p hp
  have e0 : Ex M.m I H I (upd H p (.dT [])) := Ex.cell s hp
  have c0 : M.C I (upd H p (.dT [])) := M.put c (M.fresh c hp)
  refine dk I _ e0 c0 _ fun y I2 H2 e2 c2 r => dv I2 H2 (e0.trans e2) c2 _ fun v I3 H3 e3 c3 r3 => ?_
  have ns : ¬ M.s p := M.fresh c hp
  have e23 := e2.trans e3
  have hp3 : H3 p = some (.dT []) := e23.kp _ _ (fun z => ns (M.ms _ z)) upd_same
  have ip : I3 p = none := e23.out (s.nn hp) (by rw [upd_same]; simp)
  obtain ⟨b, ey, hb⟩ := tup_key r (e2.si)
  have hb3 : H3 b = some (.tup ((kI ks).map kV)) := by
    obtain ⟨b', ey', hb'⟩ := tup_key (Mono.up r e3.ii) e3.si
    rw [ey] at ey'
    cases ey'
    exact hb'
  exact ⟨hp3, b, _, ey, hb3, k p v I3 _ ((e0.trans e23).put (.inr hp) ip) (M.put c3 ns) hp ip upd_same r3⟩
/-- as it stands, or locked -/
theorem rd_kp {u : HO} {I1 H1 : Hp} (ha : Rd H a u) (hm : ¬ M.s a) (e : Ex M.m I H I1 H1) : Rd H1 a u := by
  rcases ha with h | ⟨o, h⟩
  · exact .inl (e.kp _ _ (fun z => hm (M.ms _ z)) h)
  · exact .inr ⟨o, e.kp _ _ (fun z => hm (M.ms _ z)) h⟩
/-- k not in d -/
theorem e_dnotin (hj : σ[j]? = some (some (.ref a))) (ha : Rd H a (.dT kvs)) (hm : ¬ M.s a) (dk : D M ty σ I H (dT dI) ks) : D M (tDNotIn ty (tVar j)) σ I H dB (!(valV kvs (kI ks)).isSome) := fun I1 H1 e c Q k =>
  dk I1 H1 e c _ fun y I2 H2 e2 c2 r => by
    obtain ⟨b, ey, hb⟩ := tup_key r e2.si
    exact ⟨.ref a, hj, a, _, rfl, .inr ⟨kvs, kI ks, b, rd_kp ha hm (e.trans e2), ey, hb, rfl⟩, k _ I2 H2 e2 c2 rfl⟩
/-- d[k] -/
theorem e_dget {R : Rel α} [Mono R] {v : V} {x : α} (hj : σ[j]? = some (some (.ref a))) (ha : Rd H a (.dT kvs)) (hm : ¬ M.s a) (dk : D M ty σ I H (dT dI) ks) (hv : valV kvs (kI ks) = some v) (hr : R I v x) : D M (tDGet (tVar j) ty) σ I H R x := fun I1 H1 e c Q k =>
  ⟨.ref a, hj, dk I1 H1 e c _ fun y I2 H2 e2 c2 r => by
    obtain ⟨b, ey, hb⟩ := tup_key r e2.si
    exact ⟨a, v, rfl, .inr ⟨kvs, kI ks, b, rd_kp ha hm (e.trans e2), ey, hb, hv.symm⟩, k v I2 H2 e2 c2 (Mono.up hr (e.trans e2).ii)⟩⟩
/-- d[k] = v -/
theorem s_dput {E : Ends} {R : Rel α} [Mono R] {x : α} (hj : σ[j]? = some (some (.ref a))) (ha : H a = some (.dT kvs)) (hI : I a = none) (hm : ¬ M.s a) (dv : D M tv σ I H R x) (dk : D M ty σ I H (dT dI) ks) (s : Sub I H) (c : M.C I H) (hz : kvs.length < sizeLine)
    (k : ∀ v I1 H1, Ex M.m I H I1 H1 → M.C I1 H1 → H1 a = some (.dT kvs) → I1 a = none → R I1 v x → E.nx σ (upd H1 a (.dT (putK kvs (kI ks) v)))) : sDPut (tVar j) ty tv E σ H :=
  dv I H (Ex.refl s) c _ fun v I1 H1 e1 c1 r => ⟨.ref a, hj, dk I1 H1 e1 c1 _ fun y I2 H2 e2 c2 r2 => by
    obtain ⟨b, ey, hb⟩ := tup_key r2 e2.si
    have e := e1.trans e2
    have ha2 : H2 a = some (.dT kvs) := e.kp _ _ (fun z => hm (M.ms _ z)) ha
    exact ⟨a, _, rfl, .inr ⟨kvs, kI ks, b, ha2, ey, hb, hz, rfl⟩, k v I2 H2 e c2 ha2 (e.out hI (by rw [ha]; simp)) (Mono.up r e2.ii)⟩⟩
/-- len(xs), xs a cell -/
theorem e_lenC {xs : List V} (hj : σ[j]? = some (some (.ref a))) (ha : H a = some (.lst xs)) (hm : ¬ M.s a) : D M (tCB (fun xs H Q => ∃ p ys, xs = [.ref p] ∧ (SqL K H p ys ∨ SqT K H p ys) ∧ Q (.int ys.length) H) (tCons (tVar j) tNil)) σ I H dI xs.length := fun I1 H1 e c Q k =>
  ⟨.ref a, hj, a, xs, rfl, .inl (SqL.mk' (e.kp _ _ (fun z => hm (M.ms _ z)) ha)), k _ I1 H1 (Ex.refl e.si) c rfl⟩
/-- xs[i], xs a cell -/
theorem e_ixC {R : Rel α} [Mono R] {vs : List V} {xs : List α} {i : Int} {x : α} (hj : σ[j]? = some (some (.ref a))) (ha : H a = some (.lst vs)) (hm : ¬ M.s a) (p : Paired (R I) vs xs) (hb : D M tb σ I H dI i) (hx : atI xs i = some x) : D M (tOp (rIxL K) (tVar j) tb) σ I H R x := fun I1 H1 e c Q k =>
  ⟨.ref a, hj, hb I1 H1 e c _ fun w I2 H2 e2 c2 r => by
    obtain ⟨v, h1, h2⟩ := atI_pair p hx
    exact ⟨a, vs, i, v, rfl, r, SqL.mk' ((e.trans e2).kp _ _ (fun z => hm (M.ms _ z)) ha), h1, k v I2 H2 e2 c2 (Mono.up h2 (e.trans e2).ii)⟩⟩
/-- what was learnt is left again -/
theorem Ex.forget {J G J' J2 G2 : Hp} (x : Ex0 I H J G) (s : Sub J J') (e : Ex0 J' G J2 G2) : Ex0 I H J G2 :=
  ⟨fun b o h => e.si _ _ (e.ii _ _ (s _ _ h)), x.ii, fun b o n h => e.kp b o n (x.kp b o n h), fun b n => e.dm b (x.dm b n), x.fr⟩
theorem Ex.unlock {G : Hp} {u : HO} {od : Obj} (hI : I a = none) (ha : H a = some u) (x : Ex0 I (upd H a (.frz od u)) I G) : Ex0 I H I (upd G a u) := by
  refine ⟨x.si.cell hI, Sub.refl, fun b o n h => ?_, fun b n => ?_, fun b n => .inl n⟩
  · by_cases hb : b = a
    · subst hb
      rw [upd_same, ← ha]
      exact h
    · rw [upd_ne hb]
      exact x.kp b o n (by rw [upd_ne hb]; exact h)
  · by_cases hb : b = a
    · subst hb
      rw [upd_same]
      exact fun z => nomatch z
    · rw [upd_ne hb]
      exact x.dm b (by rw [upd_ne hb]; exact n)
theorem Ex.locked {G : Hp} {u : HO} {od : Obj} (x : Ex0 I (upd H a (.frz od u)) I G) : G a = some (.frz od u) := x.kp a _ (fun z => z) upd_same
/-- for k in d, nothing written at d -/
theorem s_forK {g : TG} {tb : TS} {E : Ends} {Γ : L2.St → List Int → Hp → L2.St → Prop} {keys : List (List Int)} (hj : σ[j]? = some (some (.ref a))) (ha : H a = some (.dT kvs)) (hI : I a = none) (hk : kvs.map (·.1) = keys.map kI) (hg : Bind g (dT dI) Γ) (s : Sub I H)
    (Pv : Nat → L2.St → Prop) (h0 : Pv 0 σ)
    (step : ∀ od i (hi : i < keys.length) σ1 σ2 J G, Ex0 I (upd H a (.frz od (.dT kvs))) I G → Sub I J → Sub J G → Pv i σ1 → Γ σ1 keys[i] J σ2 →
      tb { nx := fun σ' G' => Ex0 I (upd H a (.frz od (.dT kvs))) I G' ∧ Pv (i + 1) σ', ct := fun σ' G' => Ex0 I (upd H a (.frz od (.dT kvs))) I G' ∧ Pv (i + 1) σ',
           bk := fun σ' G' => G' a = some (.frz od (.dT kvs)) ∧ E.nx σ' (upd G' a (.dT kvs)), rt := fun v G' => G' a = some (.frz od (.dT kvs)) ∧ E.rt v (upd G' a (.dT kvs)) } σ2 G)
    (done : ∀ σ1 G, Ex0 I H I G → Pv keys.length σ1 → E.nx σ1 G) : tLock (tFor (iKeys (tVar j)) g tb) E σ H := by
  refine ⟨a, .dT kvs, ha, True.intro, fun od => ⟨.ref a, hj, a, od, rfl, .inr ⟨kvs, upd_same, ?_⟩⟩⟩
  have len : kvs.length = keys.length := by rw [← List.length_map (f := (·.1)), hk, List.length_map]
  refine for_it walk_keysT (fun i σ' G => Ex0 I (upd H a (.frz od (.dT kvs))) I G ∧ Pv i σ') ⟨Ex.refl (s.cell hI), h0⟩ (fun i σ' G hi z => z.1.locked) ?_ ?_
  · rintro i v σ1 G G2 hi ⟨x, p⟩ ⟨rfl, k, w, q, hkv, rfl, hq⟩
    have hi' : i < keys.length := len ▸ hi
    have ek : k = kI keys[i] := by
      have z : (kvs.map (·.1))[i]? = some k := by rw [List.getElem?_map, hkv]; rfl
      rw [hk, List.getElem?_map, List.getElem?_eq_getElem hi'] at z
      exact (Option.some.inj z).symm
    subst ek
    rw [kI_V] at hq
    have s1 : Sub I (upd I q (.tup (keys[i].map V.int))) := fun b o h => by
      by_cases hb : b = q
      · subst hb
        rw [upd_same, ← hq]
        exact x.si _ _ h
      · rw [upd_ne hb]; exact h
    have s2 : Sub (upd I q (.tup (keys[i].map V.int))) G2 := fun b o h => by
      by_cases hb : b = q
      · subst hb
        rw [upd_same] at h
        rw [hq]; exact h
      · rw [upd_ne hb] at h; exact x.si _ _ h
    exact hg σ1 _ G2 _ _ s2 ⟨q, _, rfl, upd_same, ints_paired⟩ _ fun σ2 hσ => step od i hi' σ1 σ2 _ G2 x s1 s2 p hσ
  · rintro σ1 G ⟨x, p⟩
    rw [len] at p
    exact ⟨x.locked, done σ1 _ (Ex.unlock hI ha x) p⟩
theorem paired_rev {F : V → α → Prop} : ∀ {vs : List V} {xs : List α}, Paired F vs xs → Paired F vs.reverse xs.reverse
  | _, _, .nil => .nil
  | _, _, .cons h t => by rw [List.reverse_cons, List.reverse_cons]; exact paired_app (paired_rev t) (.cons h .nil)
/-- xs[::-1] -/
theorem e_revL {te : TE} {R : Rel α} [Mono R] {xs : List α} (h : D M te σ I H (dL R) xs) : D M (tRevL K te) σ I H (dL R) xs.reverse := fun I1 H1 e c Q k =>
  h I1 H1 e c _ fun v I2 H2 e2 c2 ⟨b, vs, ev, hb, p⟩ => ⟨b, vs, ev, SqL.mk' (e2.si _ _ hb), fun q hq => by
    have x := Ex.new (m := no) (o := .lst vs.reverse) e2.si hq
    exact k _ _ _ (e2.trans x.of0) (M.st x c2) ⟨q, _, rfl, upd_same, paired_rev (paired_up p x.ii)⟩⟩
/-- repr of a bool -/
def rRepr : List V → Hp → VK → Prop := fun vs H Q => ∃ b, vs = [.bl b] ∧ Q (.str (if b = true then "True" else "False")) H
theorem kreprB {X : Cx} : CallR X (.builtin "repr") rRepr := by
  intro ps s τ G vs us Q J rel now
  obtain ⟨b, rfl, q⟩ := now
  obtain ⟨u, rfl, eu⟩ := vals1 rel
  have eu' : u = Value.bool b := eu
  subst eu'
  exact PySem.P.repr_of_bool ⟨.str _, G, J.tok _, ⟨_, by cases b <;> rfl⟩, q⟩
def reprB (b : Bool) : Str := if b = true then "True" else "False"
theorem e_repr {te : TE} {b : Bool} (h : D M te σ I H dB b) : D M (tCB rRepr (tCons te tNil)) σ I H dS (reprB b) := fun I1 H1 e c Q k =>
  h I1 H1 e c _ fun v I2 H2 e2 c2 r => ⟨b, by rw [show v = _ from r], k _ I2 H2 e2 c2 rfl⟩
theorem reprB_inj {a b : Bool} : decide (reprB a = reprB b) = decide (a = b) := by cases a <;> cases b <;> decide +kernel
/-- != of texts -/
theorem e_neS {ta : TE} {x y : Str} (ha : D M ta σ I H dS x) (hb : D M tb σ I H dS y) : D M (tOp rNe ta tb) σ I H dB (!decide (x = y)) := fun I1 H1 e c Q k =>
  ha I1 H1 e c _ fun v I2 H2 e2 c2 r => hb I2 H2 (e.trans e2) c2 _ fun w I3 H3 e3 c3 r3 => by
    have r' : v = V.str x := r
    have q' : w = V.str y := r3
    subst r' q'
    refine ⟨rfl, k _ I3 H3 (e2.trans e3) c3 ?_⟩
    show V.bl _ = V.bl _
    congr 2
    exact decide_eq_decide.mpr ⟨fun z => V.str.inj z, fun z => z ▸ rfl⟩
/-! ### cells of any form -/
/-- te makes a new cell, W tells what stands there -/
def DC (M : Mode) (te : TE) (σ : L2.St) (I H : Hp) (W : Hp → HO → Prop) : Prop :=
  ∀ I1 H1, Ex M.m I H I1 H1 → M.C I1 H1 → ∀ Q : VK, (∀ p o I2 H2, Ex M.m I1 H1 I2 H2 → M.C I2 H2 → H1 p = none → I2 p = none → H2 p = some o → W I2 o → Q (.ref p) H2) → te σ H1 Q
theorem dc_disp1 {tk : TE} {R : Rel α} [Mono R] {x : α} (dk : D M tk σ I H (dT dI) ks) (dv : D M tv σ I H R x) : DC M (tDisp1 tk tv) σ I H (fun J o => ∃ v, o = .dT [(kI ks, v)] ∧ R J v x) := by
  intro I1 H1 e c Q k p hp
  have e0 : Ex M.m I1 H1 I1 (upd H1 p (.dT [])) := Ex.cell e.si hp
  have c0 : M.C I1 (upd H1 p (.dT [])) := M.put c (M.fresh c hp)
  refine dk I1 _ (e.trans e0) c0 _ fun y I2 H2 e2 c2 r => dv I2 H2 ((e.trans e0).trans e2) c2 _ fun v I3 H3 e3 c3 r3 => ?_
  have ns : ¬ M.s p := M.fresh c hp
  have e23 := e2.trans e3
  have hp3 : H3 p = some (.dT []) := e23.kp _ _ (fun z => ns (M.ms _ z)) upd_same
  have ip : I3 p = none := e23.out (e.si.nn hp) (by rw [upd_same]; simp)
  obtain ⟨b, ey, _⟩ := tup_key r e2.si
  have hb3 : H3 b = some (.tup ((kI ks).map kV)) := by
    obtain ⟨b', ey', hb'⟩ := tup_key (Mono.up r e3.ii) e3.si
    rw [ey] at ey'
    cases ey'
    exact hb'
  exact ⟨hp3, b, _, ey, hb3, k p _ I3 _ ((e0.trans e23).put (.inr hp) ip) (M.put c3 ns) hp ip upd_same ⟨v, rfl, r3⟩⟩
theorem dc_F {te : TE} {R : Rel α} {xs : List α} (d : DF M te σ I H R xs) : DC M te σ I H (fun J o => ∃ vs, o = .lst vs ∧ Paired (R J) vs xs) := fun I1 H1 e c Q k =>
  d I1 H1 e c Q fun p vs I2 H2 e2 c2 h1 h2 h3 h4 => k p _ I2 H2 e2 c2 h1 h2 h3 ⟨vs, rfl, h4⟩
/-- two new cells and a value, to three names at once -/
theorem s_par3C {ta tc : TE} {i l m : Nat} {E : Ends} {W W' : Hp → HO → Prop} {R : Rel α} {x : α} (mw : ∀ {J J' o}, W J o → Sub J J' → W J' o) (mw' : ∀ {J J' o}, W' J o → Sub J J' → W' J' o) (da : DC M ta σ I H W) (db : DC M tb σ I H W') (dc : D M tc σ I H R x) (s : Sub I H) (c : M.C I H)
    (k : ∀ p o q o' v I1 H1, Ex M.m I H I1 H1 → M.C I1 H1 → H p = none → I1 p = none → H1 p = some o → W I1 o → H q = none → I1 q = none → H1 q = some o' → W' I1 o' → p ≠ q → R I1 v x → E.nx (((σ.set i (some (.ref p))).set l (some (.ref q))).set m (some v)) H1) :
    tPar3 i l m (tCons ta (tCons tb (tCons tc tNil))) E σ H :=
  da I H (Ex.refl s) c _ fun p o I1 H1 e1 c1 p0 p1 p2 p3 => db I1 H1 e1 c1 _ fun q o' I2 H2 e2 c2 q0 q1 q2 q3 => dc I2 H2 (e1.trans e2) c2 _ fun v I3 H3 e3 c3 r => by
    have np : ¬ M.s p := M.fresh c p0
    have nq : ¬ M.s q := M.fresh c1 q0
    have e23 := e2.trans e3
    have hp3 := e23.kp _ _ (fun z => np (M.ms _ z)) p2
    have hq3 := e3.kp _ _ (fun z => nq (M.ms _ z)) q2
    have q00 : H q = none := by
      cases g : H q with
      | none => rfl
      | some u => exact absurd q0 (e1.dm q (by rw [g]; simp))
    have ne : p ≠ q := fun z => by rw [z, q0] at p2; cases p2
    exact ⟨_, _, _, rfl, k p o q o' v I3 H3 ((e1.trans e2).trans e3) c3 p0 (e23.out p1 (by rw [p2]; simp)) hp3 (mw p3 e23.ii) q00 (e3.out q1 (by rw [q2]; simp)) hq3 (mw' q3 e3.ii) ne r⟩
end
end DL

/-! a dict whose keys are pairs of int tuples, written and looked into; sorted and `in` over pairs -/
namespace DL
open PySem PySem.Spec PyProof.Rows L2 RZ
abbrev Pr := List Int × List Int
abbrev dPr : Rel Pr := dP (dT dI) (dT dI)
def nkT (xs : List Int) : NestedKey := .tup (xs.map .num)
def nkP (p : Pr) : NestedKey := .tup [nkT p.1, nkT p.2]
theorem nkT_inj {a b : List Int} (h : nkT a = nkT b) : a = b := by
  unfold nkT at h
  have h' := NestedKey.tup.inj h
  clear h
  induction a generalizing b with
  | nil => cases b with
    | nil => rfl
    | cons _ _ => cases h'
  | cons x a ih => cases b with
    | nil => cases h'
    | cons y b =>
      rw [List.map_cons, List.map_cons, List.cons.injEq] at h'
      rw [ih h'.2, NestedKey.num.inj h'.1]
theorem nkP_inj {p q : Pr} (h : nkP p = nkP q) : p = q := by
  have h' := NestedKey.tup.inj h
  rw [List.cons.injEq, List.cons.injEq] at h'
  exact Prod.ext (nkT_inj h'.1) (nkT_inj h'.2.1)
theorem depth_nums : ∀ xs : List Int, NestedKey.depthAll (xs.map .num) = 0
  | [] => rfl
  | x :: xs => by rw [List.map_cons, NestedKey.depthAll, depth_nums xs]; rfl
theorem nkP_depth (p : Pr) : (nkP p).depth ≤ 8 := by
  unfold nkP nkT
  simp only [NestedKey.depth, NestedKey.depthAll, depth_nums]
  omega
/-- a key and the tuple that it stood in when it was put -/
abbrev NE := Pr × Addr
def KeyAt (H : Hp) (e : NE) : Prop := ∃ x y, H e.2 = some (.tup [.ref x, .ref y]) ∧ H x = some (.tup (e.1.1.map V.int)) ∧ H y = some (.tup (e.1.2.map V.int))
theorem KeyAt.up {I H : Hp} {e : NE} (h : KeyAt I e) (s : Sub I H) : KeyAt H e := by
  obtain ⟨x, y, h1, h2, h3⟩ := h
  exact ⟨x, y, s _ _ h1, s _ _ h2, s _ _ h3⟩
theorem KeyAt.put {H : Hp} {e : NE} {a : Addr} {o o' : HO} (h : KeyAt H e) (ha : H a = some o) (hn : ∀ xs, o ≠ .tup xs) : KeyAt (upd H a o') e := by
  obtain ⟨x, y, h1, h2, h3⟩ := h
  have ne : ∀ {b xs}, H b = some (.tup xs) → b ≠ a := fun {b xs} hb z => by
    rw [z, ha] at hb
    exact hn _ (Option.some.inj hb)
  exact ⟨x, y, by rw [upd_ne (ne h1)]; exact h1, by rw [upd_ne (ne h2)]; exact h2, by rw [upd_ne (ne h3)]; exact h3⟩
theorem keyAt_of {I : Hp} {v : V} {p : Pr} (h : dPr I v p) : ∃ q, v = .ref q ∧ KeyAt I (p, q) := by
  obtain ⟨q, x, y, e, hq, ⟨a, vs, ea, ha, pa⟩, ⟨b, ws, eb, hb, pb⟩⟩ := h
  have e1 := paired_ints pa
  have e2 := paired_ints pb
  subst e1 e2 ea eb
  exact ⟨q, e, a, b, hq, ha, hb⟩
theorem of_keyAt {I : Hp} {p : Pr} {q : Addr} (h : KeyAt I (p, q)) : dPr I (.ref q) p := by
  obtain ⟨x, y, h1, h2, h3⟩ := h
  exact ⟨q, _, _, rfl, h1, ⟨x, _, rfl, h2, ints_paired⟩, ⟨y, _, rfl, h3, ints_paired⟩⟩
section
variable {P : Program} {w : World}
def nent (e : NE) : NestedKey × Addr × Value := (nkP e.1, e.2, .bool true)
/-- the dict at a holds these keys, each with True -/
def nsAt (P : Program) (w : World) (a : Addr) (es : List NE) (h : Heap) : Prop := ∃ o ds ep, h.get? a = some o ∧ o.ExactDict ∧ o.data = .dict ds ep ∧ ds.toList = (es.map nent).map (entryOfKey (nestedKind P w)) ∧ (a == sysModules) = false ∧ (es.map (·.1)).Nodup ∧ es.length ≤ sizeLine
def dNs (P : Program) (w : World) (a : Addr) (es : List NE) : HO := .ext (nsAt P w a es)
theorem dNs_ne {a : Addr} {es : List NE} (xs : List V) : dNs P w a es ≠ .tup xs := fun z => by
  unfold dNs at z
  cases z
theorem dNs_ok {H : Hp} {h : Heap} {a : Addr} {es : List NE} (x : nsAt P w a es h) : ObjOk P w H h a (dNs P w a es) :=
  ⟨x, let ⟨o, _, _, ho, _⟩ := x; ⟨o, ho⟩, fun h1 h2 ⟨o, ds, ep, ho, r⟩ st => ⟨o, ds, ep, st o ho, r⟩⟩
theorem num_all {h : Heap} : ∀ {xs : List Int} {vs : List Value}, Vals (xs.map V.int) vs → NestedAll h (xs.map .num) vs
  | [], _, .nil => .nil
  | x :: xs, u :: vs, .cons r t => by
    obtain ⟨k, rfl⟩ := r
    exact .cons (.int x k) (num_all t)
theorem tup_is {H : Hp} {h : Heap} {a : Addr} {xs : List Int} (ok : HOk P w H h) (e : H a = some (.tup (xs.map V.int))) : NestedIs h (nkT xs) (.ref a) := by
  obtain ⟨_, its, r, o, ho, hc, n, hd⟩ := (show ObjOk P w H h a (.tup (xs.map V.int)) from ok a _ e)
  exact .tup ho hc hd (num_all r)
theorem key_is {H : Hp} {h : Heap} {e : NE} (ok : HOk P w H h) (k : KeyAt H e) : (nestedKind P w).is h (nkP e.1) e.2 := by
  obtain ⟨x, y, h1, h2, h3⟩ := k
  obtain ⟨_, its, r, o, ho, hc, n, hd⟩ := (show ObjOk P w H h e.2 (.tup [.ref x, .ref y]) from ok _ _ h1)
  obtain ⟨u1, u2, rfl, r1, r2⟩ := vals2 r
  have e1 : u1 = Value.ref x := r1
  have e2 : u2 = Value.ref y := r2
  subst e1 e2
  exact ⟨.tup ho hc hd (.cons (tup_is ok h2) (.cons (tup_is ok h3) .nil)), nkP_depth _⟩
theorem ns_of {H : Hp} {h : Heap} {a : Addr} {es : List NE} (ok : HOk P w H h) (e : H a = some (dNs P w a es)) (ks : ∀ q ∈ es, KeyAt H q) : (a == sysModules) = false ∧ es.length ≤ sizeLine ∧ (es.map (·.1)).Nodup ∧ h.DictOfH (nestedKind P w) a (es.map nent) := by
  obtain ⟨⟨o, ds, ep, ho, hx, hd, he, hs, nd, hl⟩, _⟩ := (show ObjOk P w H h a (.ext (nsAt P w a es)) from ok a _ e)
  refine ⟨hs, hl, nd, o, ds, ep, ho, hx, hd, he, fun x hx => ?_, ?_⟩
  · obtain ⟨q, hq, rfl⟩ := List.mem_map.mp hx
    exact key_is ok (ks q hq)
  · rw [List.map_map]
    have key : ∀ l : List NE, (l.map (·.1)).Nodup → (l.map ((·.1) ∘ nent)).Nodup := fun l => by
      induction l with
      | nil => intro _; exact List.nodup_nil
      | cons q l ih =>
        intro nd
        rw [List.map_cons, List.nodup_cons] at nd ⊢
        refine ⟨fun z => nd.1 ?_, ih nd.2⟩
        obtain ⟨q', hq', e'⟩ := List.mem_map.mp z
        exact List.mem_map.mpr ⟨q', hq', nkP_inj e'⟩
    exact key es nd
theorem at_key {es : List NE} {p : Pr} : (atKey (es.map nent) (nkP p)).isSome = decide (p ∈ es.map (·.1)) := by
  rw [Bool.eq_iff_iff, decide_eq_true_iff]
  unfold atKey
  rw [Option.isSome_map, List.find?_isSome]
  constructor
  · rintro ⟨x, hx, e⟩
    obtain ⟨q, hq, rfl⟩ := List.mem_map.mp hx
    exact List.mem_map.mpr ⟨q, hq, nkP_inj (of_decide_eq_true e)⟩
  · intro h
    obtain ⟨q, hq, rfl⟩ := List.mem_map.mp h
    exact ⟨_, List.mem_map.mpr ⟨q, hq, rfl⟩, decide_eq_true rfl⟩
end
/-! ### {}, x not in d, d[x] = True, list(d) -/
def tNsNew (P : Program) (w : World) : TE := fun _ H Q => ∀ p, H p = none → Q (.ref p) (upd H p (dNs P w p []))
def tNsNotIn (P : Program) (w : World) (ty td : TE) : TE := fun σ H Q => ty σ H fun y H1 => td σ H1 fun x H2 => ∃ a es e, x = .ref a ∧ H2 a = some (dNs P w a es) ∧ (∀ q ∈ es, KeyAt H2 q) ∧ y = .ref e.2 ∧ KeyAt H2 e ∧ Q (.bl (!decide (e.1 ∈ es.map (·.1)))) H2
def sNsPut (P : Program) (w : World) (td ty tv : TE) : TS := fun D σ H => tv σ H fun v H1 => td σ H1 fun x H2 => ty σ H2 fun y H3 => ∃ a es e, v = .bl true ∧ x = .ref a ∧ H3 a = some (dNs P w a es) ∧ (∀ q ∈ es, KeyAt H3 q) ∧ y = .ref e.2 ∧ KeyAt H3 e ∧ e.1 ∉ es.map (·.1) ∧ es.length < sizeLine ∧ D.nx σ (upd H3 a (dNs P w a (es ++ [e])))
def rNsList (P : Program) (w : World) : List V → Hp → VK → Prop := fun xs H Q => ∃ d es, xs = [.ref d] ∧ H d = some (dNs P w d es) ∧ (∀ q ∈ es, KeyAt H q) ∧ ∀ p, H p = none → Q (.ref p) (upd H p (.lst (es.map fun e => V.ref e.2)))
section
variable {X : Cx} {i o value : Expr} {pos pos' : Pos} {ty td tv : TE}
theorem pe_nsNew (h1 : X.prog = P := by rfl) (h2 : X.w = w := by rfl) : PE X (.Dict [] [] pos) (tNsNew P w) := by
  subst h1 h2
  exact ⟨fun pins s σ H Q I h => wpAny_Dict_empty ⟨.ref s.heap.objs.size, _, I.laid (a := s.heap.objs.size) (o := dNs X.prog X.w s.heap.objs.size []) (t' := s.toks) (fun _ _ q => Heap.get?_push_of_some _ q) (Nat.le_refl _)
    (dNs_ok ⟨_, #[], 0, Heap.get?_push_size _ rfl, ⟨rfl, rfl, rfl⟩, rfl, rfl, beq_eq_false_iff_ne.mpr (Ne.symm (Nat.ne_of_lt I.big)), List.nodup_nil, Nat.zero_le _⟩), rfl, h _ (I.hok.fresh (Nat.le_refl _))⟩⟩
theorem pc_nsNotIn (hu : X.A.units + 64 < cLine) (hi : PE X i ty) (ho : PE X o td) (h1 : X.prog = P := by rfl) (h2 : X.w = w := by rfl) : PC X .NotIn i o (tNsNotIn P w ty td) := by
  subst h1 h2
  refine ⟨fun pins s σ H Q I h => ?_⟩
  refine thn (hi.run pins s σ H _ I h) fun iv s1 ⟨y, H1, I1, ry, q1⟩ => thn (ho.run pins s1 σ H1 _ I1 q1) fun u s2 ⟨x, H2, I2, rx, a, es, e, ex, ha, ks, ey, ke, q2⟩ => ?_
  subst ex ey
  have eu : u = Value.ref a := rx
  have ei : iv = Value.ref e.2 := ry
  subst eu ei
  obtain ⟨hs, _, _, dd⟩ := ns_of I2.hok ha ks
  refine wpAny_notIn_heap (show X.A.units + 1 + 8 < cLine by omega) (key_is I2.hok ke) hs dd ?_
  rw [at_key]
  exact ⟨V.bl (!decide (e.1 ∈ es.map fun x : NE => x.1)), H2, I2.tok _, rfl, q2⟩
theorem ps_nsPut (hu : X.A.units + 64 < cLine) (ho : PE X o td) (hi : PE X i ty) (hv : PE X value tv) (hs : swapsWith value (some (.Subscript o i pos')) pos.line X.env = pure false) (h1 : X.prog = P := by rfl) (h2 : X.w = w := by rfl) :
    PS X (.Assign [.Subscript o i pos'] value pos) (sNsPut P w td ty tv) := by
  subst h1 h2
  refine ⟨fun pins s σ H D I h => ?_⟩
  refine wpAny_Assign_Subscript (thn (hv.run pins s σ H _ I h) fun r s1 ⟨v, H1, I1, rv, q1⟩ => thn (ho.run pins s1 σ H1 _ I1 q1) fun u s2 ⟨x, H2, I2, rx, q2⟩ => thn (hi.run pins s2 σ H2 _ I2 q2) fun iv s3 ⟨y, H3, I3, ry, a, es, e, ev, ex, ha, ks, ey, ke, hn, hl, q3⟩ => ?_) hs
  subst ev ex ey
  have er : r = Value.bool true := rv
  have eu : u = Value.ref a := rx
  have ei : iv = Value.ref e.2 := ry
  subst er eu ei
  obtain ⟨ns, hz, nd, dd⟩ := ns_of I3.hok ha ks
  have new : atKey (es.map nent) (nkP e.1) = none := by
    have z := at_key (es := es) (p := e.1)
    rw [decide_eq_false hn] at z
    exact Option.isSome_eq_false_iff.mp z |> Option.isNone_iff_eq_none.mp
  refine wpAny_setItem_heap (hsz := by rw [List.length_map]; exact hz) (show X.A.units + 1 + 8 < cLine by omega) (key_is I3.hok ke) dd fun h' dd' same => ?_
  rw [storedH_new new] at dd'
  obtain ⟨ob, ds, ep, hob, c1, c2, c3, _, _⟩ := dd'
  have put : ObjOk X.prog X.w (upd H3 a (dNs X.prog X.w a (es ++ [e]))) h' a (dNs X.prog X.w a (es ++ [e])) := dNs_ok ⟨ob, ds, ep, hob, c1, c2, by rw [c3, List.map_append (f := nent)]; rfl, ns, by
    rw [List.map_append]
    exact List.nodup_append.mpr ⟨nd, by simp, fun x hx y hy z => hn (by rw [← show y = e.1 by simpa using hy, ← z]; exact hx)⟩, by rw [List.length_append, List.length_singleton]; omega⟩
  exact ⟨σ, _, d_write I3 (by rw [ha]; exact True.intro) same ⟨ob, hob⟩ put, q3⟩
theorem knsList (hc : X.calm = true) (h1 : X.prog = P := by rfl) (h2 : X.w = w := by rfl) : CallR X (.type "list") (rNsList P w) := by
  subst h1 h2
  intro ps s τ G vs us Q J rel now
  obtain ⟨d, es, rfl, hd, ks, q⟩ := now
  obtain ⟨u, rfl, ru⟩ := vals1 rel
  have eu : u = Value.ref d := ru
  subst eu
  obtain ⟨sysd, hz, _, dd⟩ := ns_of J.hok hd ks
  obtain ⟨ob, ds, ep, hob, c1, c2, c3, _, _⟩ := dd
  have size : ds.size = es.length := by rw [← Array.length_toList, c3, List.length_map, List.length_map]
  refine PySem.W.kdl_call (kdl_raw sysd c1 c2) (J.ok.hd hc) hob (by omega) fun h' tk acc c' kp new items => ?_
  have acc_is : acc.toList = es.map fun e => Value.ref e.2 := by
    have al : acc.toList.length = es.length := by rw [Array.length_toList, items.1]; exact size
    apply List.ext_getElem?
    intro j
    rw [List.getElem?_map]
    by_cases hj : j < es.length
    · have hj' : j < acc.toList.length := by omega
      obtain ⟨en, hen, hv⟩ := items.2 j acc.toList[j] (by rw [← Array.getElem?_toList]; exact List.getElem?_eq_getElem hj')
      have at_ := entry_at c3 j
      rw [List.getElem?_map, List.getElem?_eq_getElem hj, hen] at at_
      have een := Option.some.inj at_
      rw [List.getElem?_eq_getElem hj', List.getElem?_eq_getElem hj, hv, een]
      rfl
    · rw [List.getElem?_eq_none (by omega), List.getElem?_eq_none (by omega)]
      rfl
  have eb : acc.toList = (es.map fun e => e.2).map Value.ref := by rw [acc_is, List.map_map]; rfl
  have rv : Vals ((es.map fun e => e.2).map V.ref) acc.toList := by rw [eb]; exact vals_refs _
  have ev : ((es.map fun e => e.2).map V.ref) = es.map fun e => V.ref e.2 := by rw [List.map_map]; rfl
  rw [ev] at rv
  exact ⟨.ref s.heap.objs.size, _, J.laid (t' := tk) (o := .lst (es.map fun e => V.ref e.2)) kp (Nat.le_refl _) ⟨by rw [List.length_map]; exact hz, acc.toList, c', rv, by rw [Array.toArray_toList]; exact new⟩, rfl, q _ (J.hok.fresh (Nat.le_refl _))⟩
end
section
variable {α β γ : Type} {M : Mode} {σ : L2.St} {I H : Hp} {K : PySem.W.Frag} {P : Program} {w : World} {a : Addr} {j : Nat} {ty tv tb : TE} {es : List NE} {x : Pr}
theorem s_asgNs {i : Nat} {E : Ends} (s : Sub I H) (c : M.C I H) (k : ∀ p H1, Ex M.m I H I H1 → M.C I H1 → H p = none → I p = none → H1 p = some (dNs P w p []) → E.nx (σ.set i (some (.ref p))) H1) : tAsg (tNsNew P w) (gName i) E σ H := fun p hp =>
  k p _ (Ex.cell s hp) (M.put c (M.fresh c hp)) hp (s.nn hp) upd_same
theorem e_nsNotIn (hj : σ[j]? = some (some (.ref a))) (ha : H a = some (dNs P w a es)) (hm : ¬ M.s a) (ks : ∀ q ∈ es, KeyAt I q) (d : D M ty σ I H dPr x) : D M (tNsNotIn P w ty (tVar j)) σ I H dB (!decide (x ∈ es.map (·.1))) := fun I1 H1 e c Q k =>
  d I1 H1 e c _ fun y I2 H2 e2 c2 r => by
    obtain ⟨q, ey, kq⟩ := keyAt_of r
    exact ⟨.ref a, hj, a, es, (x, q), rfl, (e.trans e2).kp _ _ (fun z => hm (M.ms _ z)) ha, fun q hq => (ks q hq).up ((e.trans e2).ii.trans e2.si), ey, kq.up e2.si, k _ I2 H2 e2 c2 rfl⟩
theorem s_nsPut {E : Ends} (hj : σ[j]? = some (some (.ref a))) (ha : H a = some (dNs P w a es)) (hI : I a = none) (hm : ¬ M.s a) (ks : ∀ q ∈ es, KeyAt I q) (dv : D M tv σ I H dB true) (dk : D M ty σ I H dPr x) (s : Sub I H) (c : M.C I H) (hn : x ∉ es.map (·.1)) (hz : es.length < sizeLine)
    (k : ∀ q I1 H1, Ex M.m I H I1 H1 → M.C I1 H1 → H1 a = some (dNs P w a es) → I1 a = none → KeyAt I1 (x, q) → E.nx σ (upd H1 a (dNs P w a (es ++ [(x, q)])))) : sNsPut P w (tVar j) ty tv E σ H :=
  dv I H (Ex.refl s) c _ fun v I1 H1 e1 c1 r => ⟨.ref a, hj, dk I1 H1 e1 c1 _ fun y I2 H2 e2 c2 r2 => by
    obtain ⟨q, ey, kq⟩ := keyAt_of r2
    have e := e1.trans e2
    have ha2 : H2 a = some (dNs P w a es) := e.kp _ _ (fun z => hm (M.ms _ z)) ha
    exact ⟨a, es, (x, q), r, rfl, ha2, fun q hq => (ks q hq).up (e.ii.trans e2.si), ey, kq.up e2.si, hn, hz, k q I2 H2 e c2 ha2 (e.out hI (by rw [ha]; simp)) kq⟩⟩
theorem paired_keys {I : Hp} : ∀ {es : List NE}, (∀ q ∈ es, KeyAt I q) → Paired (dPr I) (es.map fun e => V.ref e.2) (es.map (·.1))
  | [], _ => .nil
  | e :: es, h => .cons (of_keyAt (p := e.1) (q := e.2) (h e (List.mem_cons_self ..))) (paired_keys fun q hq => h q (List.mem_cons_of_mem _ hq))
theorem e_nsList (hj : σ[j]? = some (some (.ref a))) (ha : H a = some (dNs P w a es)) (hm : ¬ M.s a) (ks : ∀ q ∈ es, KeyAt I q) : D M (tCB (rNsList P w) (tCons (tVar j) tNil)) σ I H (dL dPr) (es.map (·.1)) := fun I1 H1 e c Q k =>
  ⟨.ref a, hj, a, es, rfl, e.kp _ _ (fun z => hm (M.ms _ z)) ha, fun q hq => (ks q hq).up (e.ii.trans e.si), fun p hp => by
    have x := Ex.new (m := no) (o := .lst (es.map fun e => V.ref e.2)) e.si hp
    exact k _ _ _ x.of0 (M.st x c) ⟨p, _, rfl, upd_same, paired_up (paired_keys fun q hq => (ks q hq).up e.ii) x.ii⟩⟩
end
/-! ### sorted over pairs, any length -/
def encP (p : Pr) : PyData := .tuple [.tuple (p.1.map .int), .tuple (p.2.map .int)]
def sortP (ps : List Pr) : List Pr := ps.mergeSort (PySem.W.dataLe false encP)
def rSortPr (K : PySem.W.Frag) : List V → Hp → VK → Prop := fun vs H Q => ∃ (a : Addr) (xs : List V) (Φ : V → Pr → Prop) (ps : List Pr), vs = [V.ref a] ∧ SqL K H a xs ∧ Paired Φ xs ps ∧ (∀ v p, Φ v p → Dp K H v (encP p)) ∧ ∀ q out, H q = none → Paired Φ out (sortP ps) → Q (.ref q) (upd H q (.lst out))
theorem each_of {Φ : V → Pr → Prop} : ∀ {xs : List V} {its : List Value} {ps : List Pr}, Vals xs its → Paired Φ xs ps → PySem.W.EachIs (fun u p => ∃ v, RelV v u ∧ Φ v p) its ps
  | _, _, _, .nil, .nil => .nil
  | _, _, _, .cons r t, .cons p q => .cons ⟨_, r, p⟩ (each_of t q)
theorem of_each {Φ : V → Pr → Prop} : ∀ {its : List Value} {ps : List Pr}, PySem.W.EachIs (fun u p => ∃ v, RelV v u ∧ Φ v p) its ps → ∃ xs, Vals xs its ∧ Paired Φ xs ps
  | _, _, .nil => ⟨[], .nil, .nil⟩
  | _, _, .cons ⟨v, r, p⟩ t => by
    obtain ⟨xs, h1, h2⟩ := of_each t
    exact ⟨v :: xs, .cons r h1, .cons p h2⟩
theorem depth_encP (p : Pr) : (encP p).depth ≤ 3 := by
  have key : ∀ xs : List Int, PyData.depthAll (xs.map .int) = 0 := PySem.W.depth_ints
  unfold encP
  simp only [PyData.depth, PyData.depthAll, key]
  omega
theorem ksortPr {X : Cx} {K : PySem.W.Frag} (hu : X.A.units + 64 < cLine) (h : X.K = K := by rfl) : CallR X (.builtin "sorted") (rSortPr K) := by
  subst h
  intro pins s τ G vs us Q J rel now
  obtain ⟨a, xs, Φ, ps, rfl, hs, pr, dp, q⟩ := now
  obtain ⟨its, rv, hl, hz⟩ := J.list hs
  obtain ⟨u, rfl, ru⟩ := vals1 rel
  have eu : u = Value.ref a := ru
  subst eu
  have hlen : ps.length ≤ sizeLine := by rw [← Paired.length pr]; exact hz
  refine PySem.W.sorted_data (enc := encP) (vs := its) hl.isList (each_of rv pr) ((each_of rv pr).mono fun u p ⟨v, r, f⟩ => Dp.reads J _ _ _ (dp v p f) r) (PySem.W.AllAlike.of fun b b' => ?_) (PySem.W.Sortable.tuples fun b => ⟨_, _, rfl⟩) hlen (fun b _ => by have := depth_encP b; omega) fun out ol eo => ?_
  · simp [encP, PySem.W.alike, PySem.W.alikeAll, PySem.W.alike_ints]
  · obtain ⟨ys, r1, r2⟩ := of_each eo
    obtain ⟨c, hc⟩ := PyProof.Rows.sortedAll_at s.heap its out.toArray
    exact ⟨.ref (s.heap.objs.size + 1), _, J.laid (t' := s.toks) (o := .lst ys) (fun _ _ => PyProof.Rows.sortedAll_old) (Nat.le_succ _) ⟨by rw [r1.length, ol]; exact hlen, out, c, r1, hc⟩, rfl, q _ _ (J.hok.fresh (Nat.le_succ _)) r2⟩
end DL

/-! three things in a tuple; `not in` over tuples of data; growing by tuples that stood; dicts of pairs beside lists -/
namespace DL
open PySem PySem.Spec PyProof.Rows L2 RZ
section
variable {α β γ : Type} {M : Mode} {σ : L2.St} {I H : Hp} {K : PySem.W.Frag}
def dQ (R : Rel α) (S : Rel β) (T : Rel γ) : Rel (α × β × γ) := fun I v p => ∃ a x y z, v = .ref a ∧ I a = some (.tup [x, y, z]) ∧ R I x p.1 ∧ S I y p.2.1 ∧ T I z p.2.2
instance {R : Rel α} {S : Rel β} {T : Rel γ} [Mono R] [Mono S] [Mono T] : Mono (dQ R S T) := ⟨fun ⟨a, x, y, z, e, h, p, q, r⟩ s => ⟨a, x, y, z, e, s _ _ h, Mono.up p s, Mono.up q s, Mono.up r s⟩⟩
theorem dQ_some {R : Rel α} {S : Rel β} {T : Rel γ} : ∀ I v y, dQ R S T I v y → v ≠ V.non := fun I v y ⟨a, _, _, _, e, _⟩ z => by rw [e] at z; cases z
theorem dT_some {R : Rel α} : ∀ I v y, dT R I v y → v ≠ V.non := fun I v y ⟨a, _, e, _⟩ z => by rw [e] at z; cases z
theorem e_trip {R : Rel α} {S : Rel β} {T : Rel γ} [Mono R] [Mono S] [Mono T] {ta tb tc : TE} {x : α} {y : β} {z : γ} (ha : D M ta σ I H R x) (hb : D M tb σ I H S y) (hc : D M tc σ I H T z) : D M (tTup (tCons ta (tCons tb (tCons tc tNil)))) σ I H (dQ R S T) (x, y, z) := fun I1 H1 e c Q k =>
  ha I1 H1 e c _ fun v I2 H2 e2 c2 r => hb I2 H2 (e.trans e2) c2 _ fun w I3 H3 e3 c3 q => hc I3 H3 ((e.trans e2).trans e3) c3 _ fun u I4 H4 e4 c4 t => ⟨(by show 3 ≤ sizeLine; decide), fun p hp =>
    have n := Ex.new (m := no) (o := .tup [v, w, u]) e4.si hp
    k _ _ _ (((e2.trans e3).trans e4).trans n.of0) (M.st n c4) ⟨p, v, w, u, rfl, upd_same, Mono.up r ((e3.ii.trans e4.ii).trans n.ii), Mono.up q (e4.ii.trans n.ii), Mono.up t n.ii⟩⟩
theorem e_q0 {R : Rel α} {S : Rel β} {T : Rel γ} {ta : TE} {p : α × β × γ} (ha : D M ta σ I H (dQ R S T) p) : D M (tOp (rIxT K) ta (tC (.int 0))) σ I H R p.1 := fun I1 H1 e c Q k =>
  ha I1 H1 e c _ fun v I2 H2 e2 c2 ⟨a, x, y, z, ev, h, hx, hy, hz⟩ => ⟨a, [x, y, z], 0, x, ev, rfl, SqT.mk' (e2.si _ _ h), rfl, k x I2 H2 e2 c2 hx⟩
theorem e_q1 {R : Rel α} {S : Rel β} {T : Rel γ} {ta : TE} {p : α × β × γ} (ha : D M ta σ I H (dQ R S T) p) : D M (tOp (rIxT K) ta (tC (.int 1))) σ I H S p.2.1 := fun I1 H1 e c Q k =>
  ha I1 H1 e c _ fun v I2 H2 e2 c2 ⟨a, x, y, z, ev, h, hx, hy, hz⟩ => ⟨a, [x, y, z], 1, y, ev, rfl, SqT.mk' (e2.si _ _ h), rfl, k y I2 H2 e2 c2 hy⟩
theorem e_q2 {R : Rel α} {S : Rel β} {T : Rel γ} {ta : TE} {p : α × β × γ} (ha : D M ta σ I H (dQ R S T) p) : D M (tOp (rIxT K) ta (tC (.int 2))) σ I H T p.2.2 := fun I1 H1 e c Q k =>
  ha I1 H1 e c _ fun v I2 H2 e2 c2 ⟨a, x, y, z, ev, h, hx, hy, hz⟩ => ⟨a, [x, y, z], 2, z, ev, rfl, SqT.mk' (e2.si _ _ h), rfl, k z I2 H2 e2 c2 hz⟩
/-! ### not in, over a tuple of data -/
def rNotInD (K : PySem.W.Frag) : R2 := fun x y H Q => ∃ p xs d ds, y = .ref p ∧ SqT K H p xs ∧ Dp K H x d ∧ DpAll K H xs ds ∧ d.canLay0 = true ∧ PyData.canLayAll0 ds = true ∧ PyData.depthAll ds ≤ 60 ∧ Q (.bl (!ds.any fun y => PyData.eqv y d)) H
theorem op_notInD {X : Cx} (hu : X.A.units + 64 < cLine) : OpR X (compareOp .NotIn) (rNotInD X.K) := by
  intro pins s σ H x y v u Q I rx ry h
  obtain ⟨p, xs, d, ds, ey, hq, dx, dxs, c1, c2, dep, q⟩ := h
  obtain ⟨as, r1⟩ := Dp.reads I d x v dx rx
  obtain ⟨bs, r2⟩ := Dp.reads I (.tuple ds) y u (by rw [ey]; exact .tup hq dxs) ry
  have pl := PyData.plain_of_canLay0 (.tuple ds) (by simp only [PyData.canLay0]; exact c2)
  refine SeqAt.notIn_tuple_data r2 r1 (by simpa only [PyData.plain] using pl) (PyData.plain_of_canLay0 d c1) ?_ ⟨.bl _, H, I, rfl, q⟩
  have := Nat.min_le_left (PyData.depthAll ds) d.depth
  omega
theorem knotinD {X : Cx} (hu : X.A.units + 64 < cLine) (h : X.K = K := by rfl) : OpR X (compareOp .NotIn) (rNotInD K) := by subst h; exact op_notInD hu
theorem e_notInD {R : Rel α} {n : Nat} [d : Den R n] [Mono R] [DecidableEq α] {ta tb : TE} {x : α} {xs : List α} (ha : D M ta σ I H R x) (hb : D M tb σ I H (dT R) xs) (hn : n ≤ 60 := by decide) : D M (tOp (rNotInD K) ta tb) σ I H dB (!decide (x ∈ xs)) := fun I1 H1 e c Q k =>
  ha I1 H1 e c _ fun v I2 H2 e2 c2 r => hb I2 H2 (e.trans e2) c2 _ fun w I3 H3 e3 c3 ⟨a, vs, ew, h, p⟩ => ⟨a, vs, d.den x, xs.map d.den, ew, SqT.mk' (e3.si _ _ h), d.dp (Mono.up r e3.ii) e3.si, dpAll e3.si p, d.cl x, clAll xs, Nat.le_trans (depAll xs) hn, k _ I3 H3 (e2.trans e3) c3 (by
    show V.bl _ = V.bl _
    congr 2
    rw [List.any_map, Bool.eq_iff_iff, decide_eq_true_iff, List.any_eq_true]
    constructor
    · rintro ⟨y, hy, z⟩
      rw [← (d.inj y x).mp z]; exact hy
    · intro hx
      exact ⟨x, hx, (d.inj x x).mpr rfl⟩)⟩
/-! ### sorted over pairs -/
theorem e_sortPr {te : TE} {ps : List Pr} (h : D M te σ I H (dL dPr) ps) : D M (tCB (rSortPr K) (tCons te tNil)) σ I H (dL dPr) (sortP ps) := fun I1 H1 e c Q k =>
  h I1 H1 e c _ fun v I2 H2 e2 c2 ⟨a, vs, ev, ha, p⟩ => ⟨a, vs, dPr I2, ps, by rw [ev], SqL.mk' (e2.si _ _ ha), p, fun v p r => Den.dp (R := dPr) r e2.si, fun q out hq po => by
    have z := Ex.new (m := no) (o := .lst out) e2.si hq
    exact k _ _ _ (e2.trans z.of0) (M.st z c2) ⟨q, out, rfl, upd_same, paired_up po z.ii⟩⟩
/-! ### a dict of pairs that is known -/
def dNd (P : Program) (w : World) : Rel (List Pr) := fun I v ps => ∃ d es, v = .ref d ∧ I d = some (dNs P w d es) ∧ (∀ q ∈ es, KeyAt I q) ∧ es.map (·.1) = ps
instance {P : Program} {w : World} : Mono (dNd P w) := ⟨fun ⟨d, es, e, h, ks, r⟩ s => ⟨d, es, e, s _ _ h, fun q hq => (ks q hq).up s, r⟩⟩
theorem e_nsListK {P : Program} {w : World} {te : TE} {ps : List Pr} (h : D M te σ I H (dNd P w) ps) : D M (tCB (rNsList P w) (tCons te tNil)) σ I H (dL dPr) ps := fun I1 H1 e c Q k =>
  h I1 H1 e c _ fun v I2 H2 e2 c2 ⟨d, es, ev, hd, ks, er⟩ => ⟨d, es, by rw [ev], e2.si _ _ hd, fun q hq => (ks q hq).up e2.si, fun p hp => by
    have x := Ex.new (m := no) (o := .lst (es.map fun e => V.ref e.2)) e2.si hp
    exact k _ _ _ (e2.trans x.of0) (M.st x c2) ⟨p, _, rfl, upd_same, by rw [← er]; exact paired_up (paired_keys ks) x.ii⟩⟩
theorem dc_ns {P : Program} {w : World} : DC M (tNsNew P w) σ I H (fun J o => ∃ d, o = dNs P w d []) := fun I1 H1 e c Q k p hp =>
  k p _ I1 _ (Ex.cell e.si hp) (M.put c (M.fresh c hp)) hp (e.si.nn hp) upd_same ⟨p, rfl⟩
/-- a dict of pairs and a list, both new, to two names at once -/
theorem s_parNs {P : Program} {w : World} {tb : TE} {i l : Nat} {E : Ends} {R : Rel α} {xs : List α} (db : DF M tb σ I H R xs) (s : Sub I H) (c : M.C I H)
    (k : ∀ p q vs I1 H1, Ex M.m I H I1 H1 → M.C I1 H1 → H p = none → I1 p = none → H1 p = some (dNs P w p []) → H q = none → I1 q = none → H1 q = some (.lst vs) → Paired (R I1) vs xs → p ≠ q → E.nx ((σ.set i (some (.ref p))).set l (some (.ref q))) H1) :
    tPar i l (tCons (tNsNew P w) (tCons tb tNil)) E σ H := fun p p0 => by
  have e1 : Ex M.m I H I (upd H p (dNs P w p [])) := Ex.cell s p0
  have np : ¬ M.s p := M.fresh c p0
  refine db I _ e1 (M.put c np) _ fun q vs I2 H2 e2 c2 q0 q1 q2 q3 => ?_
  have q00 : H q = none := by
    cases g : H q with
    | none => rfl
    | some u => exact absurd q0 (e1.dm q (by rw [g]; simp))
  have ne : p ≠ q := fun z => by rw [← z, upd_same] at q0; cases q0
  exact ⟨_, _, rfl, k p q vs I2 H2 (e1.trans e2) c2 p0 (e2.out (s.nn p0) (by rw [upd_same]; simp)) (e2.kp _ _ (fun z => np (M.ms _ z)) upd_same) q00 q1 q2 q3 ne⟩
end
/-! ### growing by tuples that stood already -/
def isTupO (o : HO) : Prop := ∃ xs, o = .tup xs
structure ExT (m : Addr → Prop) (I H I' H' : Hp) : Prop where
  si : Sub I' H'
  ii : Sub I I'
  kp : ∀ b o, ¬ m b → H b = some o → H' b = some o
  dm : ∀ b, H b ≠ none → H' b ≠ none
  fr : ∀ b o, I' b = some o → I b ≠ none ∨ H b = none ∨ isTupO o
section
variable {m : Addr → Prop} {I H I1 H1 I2 H2 : Hp}
theorem Ex.t (a : Ex m I H I1 H1) : ExT m I H I1 H1 := ⟨a.si, a.ii, a.kp, a.dm, fun b o h => (a.fr b (by rw [h]; simp)).elim .inl fun z => .inr (.inl z)⟩
theorem ExT.trans (a : ExT m I H I1 H1) (b : ExT m I1 H1 I2 H2) : ExT m I H I2 H2 :=
  ⟨b.si, a.ii.trans b.ii, fun p o n h => b.kp p o n (a.kp p o n h), fun p h => b.dm p (a.dm p h), fun p o h => by
    rcases b.fr p o h with z | z | z
    · cases e : I1 p with
      | none => exact absurd e z
      | some u =>
        have eu : u = o := Option.some.inj ((b.ii _ _ e).symm.trans h)
        subst eu
        exact a.fr p u e
    · cases e : H p with
      | none => exact .inr (.inl rfl)
      | some u => exact absurd z (a.dm p (by rw [e]; simp))
    · exact .inr (.inr z)⟩
theorem ExT.put (a : ExT m I H I1 H1) {p : Addr} {o : HO} (h : m p ∨ H p = none) (hI : I1 p = none) : ExT m I H I1 (upd H1 p o) :=
  ⟨a.si.cell hI, a.ii, fun b u n e => by
    by_cases hb : b = p
    · subst hb
      rcases h with h | h
      · exact absurd h n
      · rw [h] at e; cases e
    · rw [upd_ne hb]; exact a.kp _ _ n e, fun b n => by
    by_cases hb : b = p
    · subst hb; rw [upd_same]; simp
    · rw [upd_ne hb]; exact a.dm b n, a.fr⟩
/-- an address that stood, outside and no tuple, stays outside -/
theorem ExT.out (a : ExT m I H I1 H1) {p : Addr} {o : HO} (h : I p = none) (h1 : H1 p = some o) (h0 : H p ≠ none) (ho : ¬ isTupO o) : I1 p = none := by
  cases e : I1 p with
  | none => rfl
  | some u =>
    have eu : u = o := Option.some.inj ((a.si _ _ e).symm.trans h1)
    subst eu
    rcases a.fr p u e with z | z | z
    · exact absurd h z
    · exact absurd z h0
    · exact absurd z ho
/-- what changes is new to the beginning -/
theorem ExT.narrow (a : Ex0 I H I1 H1) (b : ExT m I1 H1 I2 H2) (hm : ∀ p, m p → H p = none) : ExT no I H I2 H2 :=
  ⟨b.si, a.ii.trans b.ii, fun p o _ h => b.kp p o (fun z => by rw [hm p z] at h; cases h) (a.kp p o (fun z => z) h), fun p h => b.dm p (a.dm p h), fun p o h => by
    rcases b.fr p o h with z | z | z
    · exact (a.fr p z).elim .inl fun w => .inr (.inl w)
    · cases e : H p with
      | none => exact .inr (.inl rfl)
      | some u => exact absurd z (a.dm p (by rw [e]; simp))
    · exact .inr (.inr z)⟩
/-- nothing of it known -/
theorem ExT.forget (a : ExT m I H I1 H1) : Ex m I H I H1 := ⟨fun b o h => a.si _ _ (a.ii _ _ h), Sub.refl, a.kp, a.dm, fun b h => .inl h⟩
theorem ExT.seal (a : ExT m I H I1 H1) {p : Addr} {o : HO} (h : H p = none) (h1 : H1 p = some o) (hI : I1 p = none) : ExT m I H (upd I1 p o) H1 :=
  ⟨fun b u e => by
    by_cases hb : b = p
    · subst hb; rw [upd_same] at e; rw [h1]; exact e
    · rw [upd_ne hb] at e; exact a.si _ _ e, a.ii.trans (Sub.in_ hI), a.kp, a.dm, fun b u n => by
    by_cases hb : b = p
    · subst hb; exact .inr (.inl h)
    · rw [upd_ne hb] at n; exact a.fr b u n⟩
end
section
variable {σ : L2.St} {I H : Hp} {a : Addr} {j : Nat} {kvs : List (List L2.Key × V)}
theorem ExT.unlock {m : Addr → Prop} {I1 G : Hp} {u : HO} {od : Obj} (hI : I1 a = none) (ha : H a = some u) (x : ExT m I (upd H a (.frz od u)) I1 G) : ExT m I H I1 (upd G a u) where
  si := x.si.cell hI
  ii := x.ii
  kp := fun b o n h => by
    by_cases hb : b = a
    · subst hb; rw [upd_same, ← ha]; exact h
    · rw [upd_ne hb]; exact x.kp b o n (by rw [upd_ne hb]; exact h)
  dm := fun b n => by
    by_cases hb : b = a
    · subst hb; rw [upd_same]; simp
    · rw [upd_ne hb]; exact x.dm b (by rw [upd_ne hb]; exact n)
  fr := fun b o h => by
    rcases x.fr b o h with z | z | z
    · exact .inl z
    · by_cases hb : b = a
      · subst hb; rw [hI] at h; cases h
      · rw [upd_ne hb] at z; exact .inr (.inl z)
    · exact .inr (.inr z)
/-- for k in d, nothing written at d; the keys are known from then on -/
theorem s_forKT {m : Addr → Prop} {g : TG} {tb : TS} {E : Ends} {Γ : L2.St → List Int → Hp → L2.St → Prop} {keys : List (List Int)} (hj : σ[j]? = some (some (.ref a))) (ha : H a = some (.dT kvs)) (hI : I a = none) (hm : ¬ m a) (hk : kvs.map (·.1) = keys.map kI) (hg : Bind g (dT dI) Γ) (s : Sub I H)
    (Pv : Nat → L2.St → Hp → Hp → Prop) (h0 : ∀ od, Pv 0 σ I (upd H a (.frz od (.dT kvs))))
    (step : ∀ od i (hi : i < keys.length) σ1 σ2 J J2 G, ExT m I (upd H a (.frz od (.dT kvs))) J G → ExT no J G J2 G → Pv i σ1 J G → Γ σ1 keys[i] J2 σ2 →
      tb { nx := fun σ' G' => ∃ J', ExT m I (upd H a (.frz od (.dT kvs))) J' G' ∧ Pv (i + 1) σ' J' G', ct := fun σ' G' => ∃ J', ExT m I (upd H a (.frz od (.dT kvs))) J' G' ∧ Pv (i + 1) σ' J' G',
           bk := fun σ' G' => G' a = some (.frz od (.dT kvs)) ∧ E.nx σ' (upd G' a (.dT kvs)), rt := fun v G' => G' a = some (.frz od (.dT kvs)) ∧ E.rt v (upd G' a (.dT kvs)) } σ2 G)
    (done : ∀ od σ1 J G, ExT m I H J (upd G a (.dT kvs)) → G a = some (.frz od (.dT kvs)) → Pv keys.length σ1 J G → E.nx σ1 (upd G a (.dT kvs))) : tLock (tFor (iKeys (tVar j)) g tb) E σ H := by
  refine ⟨a, .dT kvs, ha, True.intro, fun od => ⟨.ref a, hj, a, od, rfl, .inr ⟨kvs, upd_same, ?_⟩⟩⟩
  have len : kvs.length = keys.length := by rw [← List.length_map (f := (·.1)), hk, List.length_map]
  have lk : ∀ {J G : Hp}, ExT m I (upd H a (.frz od (.dT kvs))) J G → G a = some (.frz od (.dT kvs)) := fun x => x.kp a _ hm upd_same
  refine for_it walk_keysT (fun i σ' G => ∃ J, ExT m I (upd H a (.frz od (.dT kvs))) J G ∧ Pv i σ' J G) ⟨I, (Ex.refl (s.cell hI)).t, h0 od⟩ (fun i σ' G hi ⟨J, z, _⟩ => lk z) ?_ ?_
  · rintro i v σ1 G G2 hi ⟨J, x, p⟩ ⟨rfl, k, w, q, hkv, rfl, hq⟩
    have hi' : i < keys.length := len ▸ hi
    have ek : k = kI keys[i] := by
      have z : (kvs.map (·.1))[i]? = some k := by rw [List.getElem?_map, hkv]; rfl
      rw [hk, List.getElem?_map, List.getElem?_eq_getElem hi'] at z
      exact (Option.some.inj z).symm
    subst ek
    rw [kI_V] at hq
    have t : ExT no J G2 (upd J q (.tup (keys[i].map V.int))) G2 := ⟨fun b o h => by
      by_cases hb : b = q
      · subst hb
        rw [upd_same] at h
        rw [hq]; exact h
      · rw [upd_ne hb] at h; exact x.si _ _ h, fun b o h => by
      by_cases hb : b = q
      · subst hb
        rw [upd_same, ← hq]
        exact x.si _ _ h
      · rw [upd_ne hb]; exact h, fun b o _ h => h, fun b h => h, fun b o h => by
      by_cases hb : b = q
      · subst hb
        rw [upd_same] at h
        exact .inr (.inr ⟨_, (Option.some.inj h).symm⟩)
      · rw [upd_ne hb] at h; exact .inl (by rw [h]; simp)⟩
    exact hg σ1 _ G2 _ _ t.si ⟨q, _, rfl, upd_same, ints_paired⟩ _ fun σ2 hσ => step od i hi' σ1 σ2 J _ G2 x t p hσ
  · rintro σ1 G ⟨J, x, p⟩
    rw [len] at p
    exact ⟨lk x, done od σ1 J G (ExT.unlock (x.out hI (lk x) (by rw [upd_same]; simp) (fun ⟨xs, z⟩ => by cases z)) ha x) (lk x) p⟩
end
end DL

namespace KK
open PySem PySem.Spec PyProof.Rows L2 RZ DL
def topS (i : Nat) : Stmt := PySem.Challenge.pw_clearhall_k45_whole_tables_of_steady_kin.main.body.getD i (.Pass ⟨0, 0, 0, 0⟩)
structure Txt (mg : Str → Option Value) : Prop where
  b_all : mg "all" = none
  b_any : mg "any" = none
  b_zip : mg "zip" = none
  b_tuple : mg "tuple" = none
  b_list : mg "list" = none
  b_min : mg "min" = none
  b_max : mg "max" = none
  b_range : mg "range" = none
  b_len : mg "len" = none
  b_sum : mg "sum" = none
  b_int : mg "int" = none
  b_abs : mg "abs" = none
  b_bool : mg "bool" = none
  b_isinstance : mg "isinstance" = none
  b_enumerate : mg "enumerate" = none
  b_sorted : mg "sorted" = none
  b_set : mg "set" = none
  c_MOST_KINDS : ∃ t, mg "MOST_KINDS" = some (.int 3 t)
  c_MOST_COUNT : ∃ t, mg "MOST_COUNT" = some (.int 4 t)
  c_MOST_LOTS : ∃ t, mg "MOST_LOTS" = some (.int 12 t)

  c_MOST_ROW : ∃ t, mg "MOST_ROW" = some (.int 200 t)
theorem atI_getD {α : Type} {xs : List α} {i : Int} (d : α) (h0 : 0 ≤ i) (h1 : i < xs.length) : atI xs i = some (xs.getD i.toNat d) := by
  have e : xs[i.toNat]? = some (xs.getD i.toNat d) := by
    have h : i.toNat < xs.length := by omega
    rw [List.getElem?_eq_getElem h, List.getD_eq_getElem?_getD, List.getElem?_eq_getElem h]; rfl
  have q := atI_nat (j := i.toNat) e
  rw [Int.toNat_of_nonneg h0] at q
  exact q
theorem cut_len {α : Type} (xs : List α) (lo hi : Option Int) : (cut xs lo hi).length ≤ xs.length := by
  unfold cut
  rw [List.length_take, List.length_drop]
  omega
def maxL (xs : List Int) : Int := xs.foldl max 0
theorem maxL_mem : ∀ {xs : List Int} {a : Int}, xs.foldl max a ∈ a :: xs
  | [], a => by simp
  | x :: xs, a => by
    have h := maxL_mem (xs := xs) (a := max a x)
    show xs.foldl max (max a x) ∈ _
    rcases List.mem_cons.mp h with h | h
    · rw [h]
      rcases Int.le_total a x with z | z
      · rw [Int.max_eq_right z]; simp
      · rw [Int.max_eq_left z]; simp
    · simp [h]
theorem maxL_le : ∀ {xs : List Int} {a y : Int}, y ∈ a :: xs → y ≤ xs.foldl max a
  | [], a, y, h => by simp at h; rw [h]; exact Int.le_refl _
  | x :: xs, a, y, h => by
    show y ≤ xs.foldl max (max a x)
    rcases List.mem_cons.mp h with h | h
    · exact Int.le_trans (by rw [h]; exact Int.le_max_left a x) (maxL_le (xs := xs) (a := max a x) (List.mem_cons_self ..))
    · rcases List.mem_cons.mp h with h | h
      · exact Int.le_trans (by rw [h]; exact Int.le_max_right a x) (maxL_le (xs := xs) (a := max a x) (List.mem_cons_self ..))
      · exact maxL_le (List.mem_cons_of_mem _ h)
/-! kinds -/
structure KindsC (K : PySem.W.Frag) (C : Addr) : Prop where
  cl : Cls K C
  n1 : NoAttr K C "many"
  n2 : NoAttr K C "lots"
def dKinds (C : Addr) : Rel (Int × List (List Int)) := fun I v p => ∃ a dx b fs, v = .ref a ∧ I a = some (.ins C dx fs) ∧ fs.lookup ("many" : Str) = some (.int p.1) ∧ fs.lookup ("lots" : Str) = some b ∧ dT (dT dI) I b p.2
instance {C : Addr} : Mono (dKinds C) := ⟨fun ⟨a, dx, b, fs, e, h, l1, l2, r⟩ s => ⟨a, dx, b, fs, e, s _ _ h, l1, l2, Mono.up r s⟩⟩
section
variable {P : Program} {w : World} {K : PySem.W.Frag} {mg : Str → Option Value} {base : Heap}
section
variable {M : Mode} {σ : L2.St} {I H : Hp} {C : Addr}
theorem e_many {te : TE} {p : Int × List (List Int)} (c : KindsC K C) (h : D M te σ I H (dKinds C) p) : D M (tFld K te "many") σ I H dI p.1 := fun I1 H1 e cc Q k =>
  h I1 H1 e cc _ fun v I2 H2 e2 c2 ⟨a, dx, b, fs, ev, ha, l1, l2, r⟩ => ⟨a, C, dx, fs, _, ev, e2.si _ _ ha, c.cl, c.n1, l1, k _ I2 H2 e2 c2 rfl⟩
theorem e_lots {te : TE} {p : Int × List (List Int)} (c : KindsC K C) (h : D M te σ I H (dKinds C) p) : D M (tFld K te "lots") σ I H (dT (dT dI)) p.2 := fun I1 H1 e cc Q k =>
  h I1 H1 e cc _ fun v I2 H2 e2 c2 ⟨a, dx, b, fs, ev, ha, l1, l2, r⟩ => ⟨a, C, dx, fs, b, ev, e2.si _ _ ha, c.cl, c.n2, l2, k _ I2 H2 e2 c2 r⟩
end
/-! ### checks -/
def isI (x : Wv) : Bool := x.isInt && !x.isBool
def within (x : Wv) (a b : Int) : Bool := match x with
  | .int i => decide (a ≤ i) && decide (i ≤ b)
  | _ => false
abbrev s_is_integer : Stmt := topS 5
abbrev N_is_integer : List Str := ["thing"]
theorem sc_is_integer : FnScope N_is_integer ["thing"] (defScope s_is_integer) := ⟨rfl, rfl, rfl, by decide +kernel, rfl, by decide +kernel, by decide +kernel⟩
abbrev sp_is_integer (C : Addr) : Sp := DL.sp (aCons dW aNil) (fun x => True) dB (fun x => isI x.1)
theorem mk_is_integer {C f : Addr} {fd : FuncData} (F : Df K mg "is_integer" s_is_integer ["thing"] f fd) (T : Txt mg) (KC : KindsC K C)  : Cal P w K mg base 1 "is_integer" (sp_is_integer C) := by
  refine Cal.of F (F.fn.ok sc_is_integer (fun vs H Q E h => ?_) (fun cdv A outer s H vs Q E hr h => ?_))
  · obtain ⟨I, x, si, ⟨v0, _, rfl, r0, rfl⟩, hp, k⟩ := h
    rfl
  · obtain ⟨I, ⟨x0, ⟨⟩⟩, si, ⟨v0, _, rfl, r0, rfl⟩, hp, k⟩ := h
    replace hp : True := hp
    dsimp only at *
    refine ⟨_, (pss_one (ps_ret (pe_and (pe_callB (kisi K) (by rfl) T.b_isinstance boot_isinstance (pa_cons (pv 0) (pa_cons (pe_bltn (v := .ty "int") rfl T.b_int boot_int rfl) pa_nil))) (pe_one (pe_not (pe_callB (kisi K) (by rfl) T.b_isinstance boot_isinstance (pa_cons (pv 0) (pa_cons (pe_bltn (v := .ty "bool") rfl T.b_bool boot_bool rfl) pa_nil)))))))), ?_⟩
    exact s_ret (M := M0) (e_and (e_isiWi (e_var r0)) (fun _ => e_not (e_isiWb (e_var r0)))) si True.intro (fun v I1 H1 e c r => k v I1 H1 e r)
abbrev s_is_within : Stmt := topS 6
abbrev N_is_within : List Str := ["thing", "least", "most"]
theorem sc_is_within : FnScope N_is_within ["thing", "least", "most"] (defScope s_is_within) := ⟨rfl, rfl, rfl, by decide +kernel, rfl, by decide +kernel, by decide +kernel⟩
abbrev sp_is_within (C : Addr) : Sp := DL.sp (aCons dW (aCons dI (aCons dI aNil))) (fun x => True) dB (fun x => within x.1 x.2.1 x.2.2.1)
theorem mk_is_within {C f : Addr} {fd : FuncData} (F : Df K mg "is_within" s_is_within ["thing", "least", "most"] f fd) (T : Txt mg) (KC : KindsC K C) (c_is_integer : Cal P w K mg base 1 "is_integer" (sp_is_integer C)) : Cal P w K mg base 2 "is_within" (sp_is_within C) := by
  refine Cal.of F (F.fn.ok sc_is_within (fun vs H Q E h => ?_) (fun cdv A outer s H vs Q E hr h => ?_))
  · obtain ⟨I, x, si, ⟨v0, _, rfl, r0, v1, _, rfl, r1, v2, _, rfl, r2, rfl⟩, hp, k⟩ := h
    rfl
  · obtain ⟨I, ⟨x0, x1, x2, ⟨⟩⟩, si, ⟨v0, _, rfl, r0, v1, _, rfl, r1, v2, _, rfl, r2, rfl⟩, hp, k⟩ := h
    replace hp : True := hp
    dsimp only at *
    refine ⟨_, (pss_one (ps_ret (pe_and (pe_c c_is_integer hr (by decide) (by rfl) (pa_cons (pv 0) pa_nil)) (pe_one (pe_chain op_le op_le (pv 1) (pv 0) (pv 2)))))), ?_⟩
    have rd : D M0 (tAndV (tCall (sp_is_integer C) [] L2.E0 (tCons (tVar 0) tNil)) (tChain (L2.rI0 fun i j => .bl (decide (i ≤ j))) (L2.rI0 fun i j => .bl (decide (i ≤ j))) (tVar 1) (tVar 0) (tVar 2))) (start N_is_within [v0, v1, v2]) I H dB (within x0 x1 x2) := by
      refine (e_and (e_call (a_cons (e_var r0) a_nil) True.intro) (b := within x0 x1 x2) (fun h => ?_)).eq ?_
      · cases x0 with
        | int i => exact e_chain (e_var r1) (e_ofW (e_var r0)) (fun _ => e_var r2)
        | _ => cases h
      · cases x0 <;> rfl
    exact s_ret (M := M0) rd si True.intro (fun v I1 H1 e c r => k v I1 H1 e r)
/-! ### lots -/
def isAtMost (a b : List Int) : Bool := ((a.zip b).map fun p => decide (p.1 ≤ p.2)).all id
abbrev s_is_at_most : Stmt := topS 13
abbrev N_is_at_most : List Str := ["one", "other", "count", "most"]
theorem sc_is_at_most : FnScope N_is_at_most ["one", "other"] (defScope s_is_at_most) := ⟨rfl, rfl, rfl, by decide +kernel, rfl, by decide +kernel, by decide +kernel⟩
abbrev sp_is_at_most (C : Addr) : Sp := DL.sp (aCons (dT dI) (aCons (dT dI) aNil)) (fun x => x.1.length < 1000) dB (fun x => isAtMost x.1 x.2.1)
theorem mk_is_at_most {C f : Addr} {fd : FuncData} (F : Df K mg "is_at_most" s_is_at_most ["one", "other"] f fd) (T : Txt mg) (KC : KindsC K C)  : Cal P w K mg base 1 "is_at_most" (sp_is_at_most C) := by
  refine Cal.of F (F.fn.ok sc_is_at_most (fun vs H Q E h => ?_) (fun cdv A outer s H vs Q E hr h => ?_))
  · obtain ⟨I, x, si, ⟨v0, _, rfl, r0, v1, _, rfl, r1, rfl⟩, hp, k⟩ := h
    rfl
  · obtain ⟨I, ⟨x0, x1, ⟨⟩⟩, si, ⟨v0, _, rfl, r0, v1, _, rfl, r1, rfl⟩, hp, k⟩ := h
    replace hp : x0.length < 1000 := hp
    dsimp only at *
    refine ⟨_, (pss_one (ps_ret (pe_callB (kall K rfl) (by rfl) T.b_all boot_all (pa_cons (by exact (pe_lc (own := [("count", 2), ("most", 3)]) (g := gTup K 2 (gCons (gName 2) (gCons (gName 3) (gNil)))) rfl sc_is_at_most.nd (kzip K rfl T.b_zip (pa_cons (pv 0) (pa_cons (pv 1) pa_nil))) (by exact (blkOk_by (N := N_is_at_most) (sc := (defScope s_is_at_most)) (by decide +kernel))) (fun _ _ _ _ _ => by exact (kgtup K rfl (pgs_cons (pg_name (i := 2) sc_is_at_most.nd rfl (Or.inl rfl)) (pgs_cons (pg_name (i := 3) sc_is_at_most.nd rfl (Or.inl rfl)) pgs_nil)))) (fun _ _ _ _ _ => by exact pts_nil) (fun _ _ _ _ _ => by exact (pe_cmpR op_le (pv 2) (pv 3) (nomark _))))) pa_nil)))), ?_⟩
    refine s_ret (M := M0) (x := _) (e_allL (e_lcP (f := fun (p10 : (Int × Int)) => (decide (p10.1 ≤ p10.2))) (s_zipTT (e_var r0) (e_var r1)) ?_ (fun i1 hi2 v6 w7 J4 G5 x3 q8 q9 => (e_b2 (e_var q8) (e_var q9))))) si True.intro (fun v I1 H1 e c r => k v I1 H1 e r)
    -- holes: ['comp len']
    · rw [List.length_zip, sizeLine_eq]
      omega
/-! ### kinds -/
abbrev Kd := Int × List (List Int)
structure KOk (p : Kd) : Prop where
  lo : 1 ≤ p.1
  hi : p.1 ≤ 3
  few : p.2.length ≤ 12
  len : ∀ l ∈ p.2, l.length = p.1.toNat
def begin_ (p : Kd) : List Int := (List.replicate p.1.toNat [(0 : Int)]).flatten
abbrev s_begin : Stmt := topS 18
abbrev N_begin : List Str := ["kinds"]
theorem sc_begin : FnScope N_begin ["kinds"] (defScope s_begin) := ⟨rfl, rfl, rfl, by decide +kernel, rfl, by decide +kernel, by decide +kernel⟩
abbrev sp_begin (C : Addr) : Sp := DL.sp (aCons (dKinds C) aNil) (fun x => KOk x.1) (dT dI) (fun x => begin_ x.1)
theorem mk_begin {C f : Addr} {fd : FuncData} (F : Df K mg "begin" s_begin ["kinds"] f fd) (T : Txt mg) (KC : KindsC K C)  : Cal P w K mg base 1 "begin" (sp_begin C) := by
  refine Cal.of F (F.fn.ok sc_begin (fun vs H Q E h => ?_) (fun cdv A outer s H vs Q E hr h => ?_))
  · obtain ⟨I, x, si, ⟨v0, _, rfl, r0, rfl⟩, hp, k⟩ := h
    rfl
  · obtain ⟨I, ⟨x0, ⟨⟩⟩, si, ⟨v0, _, rfl, r0, rfl⟩, hp, k⟩ := h
    replace hp : KOk x0 := hp
    dsimp only at *
    refine ⟨_, (pss_one (ps_ret (pe_op (krepT K) (pe_tup (pa_cons pe_int pa_nil)) (kfld K (pv 0))))), ?_⟩
    have h1 := hp.lo
    have h2 := hp.hi
    refine s_ret (M := M0) (x := _) (e_repT (e_tup (l_cons e_int l_nil)) (e_many KC (e_var r0)) ?_ ?_ ?_) si True.intro (fun v I1 H1 e c r => k v I1 H1 e r)
    -- holes: ['rep lo', 'rep hi', 'rep len']
    · omega
    · omega
    · simp only [List.length_singleton]; omega
def capsOf (p : Kd) : List Int := (rng p.1).map fun k => maxL (p.2.map (fun l => l.getD k.toNat 0) ++ [0])
theorem maxL_mem0 {xs : List Int} (h : (0 : Int) ∈ xs) : maxL xs ∈ xs := by
  rcases List.mem_cons.mp (maxL_mem (xs := xs) (a := 0)) with q | q
  · show xs.foldl max 0 ∈ xs
    rw [q]; exact h
  · exact q
abbrev s_caps : Stmt := topS 19
abbrev N_caps : List Str := ["kinds", "kind", "lot"]
theorem sc_caps : FnScope N_caps ["kinds"] (defScope s_caps) := ⟨rfl, rfl, rfl, by decide +kernel, rfl, by decide +kernel, by decide +kernel⟩
abbrev sp_caps (C : Addr) : Sp := DL.sp (aCons (dKinds C) aNil) (fun x => KOk x.1) (dT dI) (fun x => capsOf x.1)
theorem mk_caps {C f : Addr} {fd : FuncData} (F : Df K mg "caps" s_caps ["kinds"] f fd) (T : Txt mg) (KC : KindsC K C)  : Cal P w K mg base 1 "caps" (sp_caps C) := by
  refine Cal.of F (F.fn.ok sc_caps (fun vs H Q E h => ?_) (fun cdv A outer s H vs Q E hr h => ?_))
  · obtain ⟨I, x, si, ⟨v0, _, rfl, r0, rfl⟩, hp, k⟩ := h
    rfl
  · obtain ⟨I, ⟨x0, ⟨⟩⟩, si, ⟨v0, _, rfl, r0, rfl⟩, hp, k⟩ := h
    replace hp : KOk x0 := hp
    dsimp only at *
    refine ⟨_, (pss_one (ps_ret (ktuple K (by rfl) T.b_tuple (by exact (pe_lc (own := [("kind", 1)]) (g := gName 1) rfl sc_caps.nd (pi_range1 rfl T.b_range (pa_cons (kfld K (pv 0)) pa_nil)) (by exact (blkOk_by (N := N_caps) (sc := (defScope s_caps)) (by decide +kernel))) (fun _ _ _ _ _ => by exact (pg_name (i := 1) sc_caps.nd rfl (Or.inr rfl))) (fun _ _ _ _ _ => by exact pts_nil) (fun _ _ _ _ _ => by exact (pe_callB (kmax K rfl) (by rfl) T.b_max boot_max (pa_cons (pe_op op_cat (by exact (pe_lc (own := [("lot", 2)]) (g := gName 2) rfl sc_caps.nd (ktup K (kfld K (pv 0))) (by exact (blkOk_by (N := N_caps) (sc := (relS _ (defScope s_caps))) (by decide +kernel))) (fun _ _ _ _ _ => by exact (pg_name (i := 2) sc_caps.nd rfl (Or.inl rfl))) (fun _ _ _ _ _ => by exact pts_nil) (fun _ _ _ _ _ => by exact (pe_ix (kixT K) (pv 2) (pv 1) (fun _ _ => rfl))))) (pe_lst (pa_cons pe_int pa_nil))) pa_nil)))))))), ?_⟩
    have h1 := hp.lo
    have h2 := hp.hi
    have h3 := hp.few
    refine s_ret (M := M0) (x := _) (e_tupleL (e_lcN (f := fun (kind : Int) => (maxL ((x0.2.map fun (lot : (List Int)) => (lot.getD (kind).toNat (0 : Int))) ++ [0]))) (s_rng (e_many KC (e_var r0)) ?_ ?_) ?_ (fun i1 hi2 v6 J4 G5 x3 q7 => (e_maxL (e_catL (e_lcN (f := fun (lot : (List Int)) => (lot.getD ((rng (x0.1))[i1]).toNat (0 : Int))) (s_tup (e_lots KC (e_var (Mono.up r0 x3.ii)))) ?_ (fun i8 hi9 v13 J11 G12 x10 q14 => (e_ixT (e_var q14) (e_var (Mono.up q7 x10.ii)) (atI_getD (0 : Int) ?_ ?_)))) (e_lst (l_cons e_int l_nil)) ?_) ?_ ?_)))) si True.intro (fun v I1 H1 e c r => k v I1 H1 e r)
    -- holes: ['range lo', 'range hi', 'comp len', 'comp len', '0 ≤ (rng (x0.1))[i1]', '(rng (x0.1))[i1] < length', 'cat len', 'max mem', 'max le']
    · omega
    · omega
    · rw [rng_length, sizeLine_eq]; omega
    · rw [sizeLine_eq]; omega
    · rw [rng_get]; omega
    · rw [rng_get, hp.len _ (List.getElem_mem _)]
      rw [rng_length] at hi2
      omega
    · rw [List.length_map, sizeLine_eq]; simp only [List.length_singleton]; omega
    · exact maxL_mem0 (by simp)
    · exact fun y hy => maxL_le (List.mem_cons_of_mem _ hy)
def withOne (c : List Int) (k : Int) : List Int := cut c none (some k) ++ [c.getD k.toNat 0 + 1] ++ cut c (some (k + 1)) none
abbrev s_with_one : Stmt := topS 20
abbrev N_with_one : List Str := ["counts", "kind"]
theorem sc_with_one : FnScope N_with_one ["counts", "kind"] (defScope s_with_one) := ⟨rfl, rfl, rfl, by decide +kernel, rfl, by decide +kernel, by decide +kernel⟩
abbrev sp_with_one (C : Addr) : Sp := DL.sp (aCons (dT dI) (aCons dI aNil)) (fun x => 0 ≤ x.2.1 ∧ x.2.1 < x.1.length ∧ x.1.length < 1000) (dT dI) (fun x => withOne x.1 x.2.1)
theorem mk_with_one {C f : Addr} {fd : FuncData} (F : Df K mg "with_one" s_with_one ["counts", "kind"] f fd) (T : Txt mg) (KC : KindsC K C)  : Cal P w K mg base 1 "with_one" (sp_with_one C) := by
  refine Cal.of F (F.fn.ok sc_with_one (fun vs H Q E h => ?_) (fun cdv A outer s H vs Q E hr h => ?_))
  · obtain ⟨I, x, si, ⟨v0, _, rfl, r0, v1, _, rfl, r1, rfl⟩, hp, k⟩ := h
    rfl
  · obtain ⟨I, ⟨x0, x1, ⟨⟩⟩, si, ⟨v0, _, rfl, r0, v1, _, rfl, r1, rfl⟩, hp, k⟩ := h
    replace hp : 0 ≤ x1 ∧ x1 < x0.length ∧ x0.length < 1000 := hp
    dsimp only at *
    refine ⟨_, (pss_one (ps_ret (pe_op (kcatT K) (pe_op (kcatT K) (pe_slice (kslT K) (pv 0) po_none (po_some (pv 1))) (pe_tup (pa_cons (pe_op op_add (pe_ix (kixT K) (pv 0) (pv 1) (fun _ _ => rfl)) pe_int) pa_nil))) (pe_slice (kslT K) (pv 0) (po_some (pe_op op_add (pv 1) pe_int)) po_none)))), ?_⟩
    refine s_ret (M := M0) (x := _) (e_catT (e_catT (e_slT (e_var r0) o_none (o_some (e_var r1))) (e_tup (l_cons (e_i2 (e_ixT (e_var r0) (e_var r1) (atI_getD (0 : Int) ?_ ?_)) e_int) l_nil)) ?_) (e_slT (e_var r0) (o_some (e_i2 (e_var r1) e_int)) o_none) ?_) si True.intro (fun v I1 H1 e c r => k v I1 H1 e r)
    -- holes: ['0 ≤ x1', 'x1 < length', 'cat len', 'cat len']
    · exact hp.1
    · exact hp.2.1
    · have := cut_len x0 none (some x1)
      rw [sizeLine_eq]; simp only [List.length_singleton]; omega
    · have q1 := cut_len x0 none (some x1)
      have q2 := cut_len x0 (some (x1 + 1)) none
      rw [sizeLine_eq]; simp only [List.length_append, List.length_singleton]; omega
def cappedK (p : Kd) (c : List Int) : List Int := (c.zip (capsOf p)).map fun q => if q.2 < q.1 then q.2 else q.1
abbrev s_capped : Stmt := topS 21
abbrev N_capped : List Str := ["kinds", "counts", "count", "most"]
theorem sc_capped : FnScope N_capped ["kinds", "counts"] (defScope s_capped) := ⟨rfl, rfl, rfl, by decide +kernel, rfl, by decide +kernel, by decide +kernel⟩
abbrev sp_capped (C : Addr) : Sp := DL.sp (aCons (dKinds C) (aCons (dT dI) aNil)) (fun x => KOk x.1 ∧ x.2.1.length < 1000) (dT dI) (fun x => cappedK x.1 x.2.1)
theorem mk_capped {C f : Addr} {fd : FuncData} (F : Df K mg "capped" s_capped ["kinds", "counts"] f fd) (T : Txt mg) (KC : KindsC K C) (c_caps : Cal P w K mg base 1 "caps" (sp_caps C)) : Cal P w K mg base 2 "capped" (sp_capped C) := by
  refine Cal.of F (F.fn.ok sc_capped (fun vs H Q E h => ?_) (fun cdv A outer s H vs Q E hr h => ?_))
  · obtain ⟨I, x, si, ⟨v0, _, rfl, r0, v1, _, rfl, r1, rfl⟩, hp, k⟩ := h
    rfl
  · obtain ⟨I, ⟨x0, x1, ⟨⟩⟩, si, ⟨v0, _, rfl, r0, v1, _, rfl, r1, rfl⟩, hp, k⟩ := h
    replace hp : KOk x0 ∧ x1.length < 1000 := hp
    dsimp only at *
    refine ⟨_, (pss_one (ps_ret (ktuple K (by rfl) T.b_tuple (by exact (pe_lc (own := [("count", 2), ("most", 3)]) (g := gTup K 2 (gCons (gName 2) (gCons (gName 3) (gNil)))) rfl sc_capped.nd (kzip K rfl T.b_zip (pa_cons (pv 1) (pa_cons (pe_c c_caps hr (by decide) (by rfl) (pa_cons (pv 0) pa_nil)) pa_nil))) (by exact (blkOk_by (N := N_capped) (sc := (defScope s_capped)) (by decide +kernel))) (fun _ _ _ _ _ => by exact (kgtup K rfl (pgs_cons (pg_name (i := 2) sc_capped.nd rfl (Or.inl rfl)) (pgs_cons (pg_name (i := 3) sc_capped.nd rfl (Or.inl rfl)) pgs_nil)))) (fun _ _ _ _ _ => by exact pts_nil) (fun _ _ _ _ _ => by exact (pe_callB (call_min2 rfl) (by rfl) T.b_min boot_min (pa_cons (pv 2) (pa_cons (pv 3) pa_nil))))))))), ?_⟩
    refine s_ret (M := M0) (x := _) (e_tupleL (e_lcP (f := fun (p10 : (Int × Int)) => (if p10.2 < p10.1 then p10.2 else p10.1)) (s_zipTT (e_var r1) (e_call (a_cons (e_var r0) a_nil) ?_)) ?_ (fun i1 hi2 v6 w7 J4 G5 x3 q8 q9 => (e_min2 (e_var q8) (e_var q9))))) si True.intro (fun v I1 H1 e c r => k v I1 H1 e r)
    -- holes: ['pre of caps', 'comp len']
    · exact hp.1
    · dsimp only
      have q := List.length_zip (l₁ := x1) (l₂ := capsOf x0)
      rw [sizeLine_eq]; omega
theorem cut_to {α : Type} {xs : List α} {i : Int} (h0 : 0 ≤ i) (h1 : i ≤ xs.length) : cut xs none (some i) = xs.take i.toNat := by
  unfold cut
  have e : HT.sIx xs.length xs.length (some i) = i.toNat := by
    have q := HT.sIx_nat xs.length xs.length i.toNat
    rw [Int.toNat_of_nonneg h0] at q
    rw [q]; omega
  rw [e, HT.sIx_none, List.drop_zero, Nat.sub_zero]
theorem cut_from {α : Type} {xs : List α} {i : Int} (h0 : 0 ≤ i) (h1 : i ≤ xs.length) : cut xs (some i) none = xs.drop i.toNat := by
  unfold cut
  have e : HT.sIx xs.length 0 (some i) = i.toNat := by
    have q := HT.sIx_nat xs.length 0 i.toNat
    rw [Int.toNat_of_nonneg h0] at q
    rw [q]; omega
  rw [e, HT.sIx_none, List.take_of_length_le (by rw [List.length_drop]; exact Nat.le_refl _)]
theorem withOne_set {c : List Int} {k : Int} (h0 : 0 ≤ k) (h1 : k < c.length) : withOne c k = c.set k.toNat (c.getD k.toNat 0 + 1) := by
  unfold withOne
  rw [cut_to h0 (by omega), cut_from (by omega) (by omega)]
  have hk : k.toNat < c.length := by omega
  rw [List.set_eq_take_append_cons_drop, if_pos hk, show (k + 1).toNat = k.toNat + 1 by omega, List.append_assoc]
  rfl
def stepK (p : Kd) (c : List Int) (k : Int) : Bool × List Int := if (p.2.map fun l => isAtMost l (withOne c k)).any id then (false, c) else (true, cappedK p (withOne c k))
abbrev s_step : Stmt := topS 22
abbrev N_step : List Str := ["kinds", "counts", "kind", "later", "lot"]
theorem sc_step : FnScope N_step ["kinds", "counts", "kind"] (defScope s_step) := ⟨rfl, rfl, rfl, by decide +kernel, rfl, by decide +kernel, by decide +kernel⟩
abbrev sp_step (C : Addr) : Sp := DL.sp (aCons (dKinds C) (aCons (dT dI) (aCons dI aNil))) (fun x => KOk x.1 ∧ x.2.1.length = x.1.1.toNat ∧ 0 ≤ x.2.2.1 ∧ x.2.2.1 < x.1.1) (dP dB (dT dI)) (fun x => stepK x.1 x.2.1 x.2.2.1)
theorem mk_step {C f : Addr} {fd : FuncData} (F : Df K mg "step" s_step ["kinds", "counts", "kind"] f fd) (T : Txt mg) (KC : KindsC K C) (c_is_at_most : Cal P w K mg base 1 "is_at_most" (sp_is_at_most C)) (c_with_one : Cal P w K mg base 1 "with_one" (sp_with_one C)) (c_capped : Cal P w K mg base 2 "capped" (sp_capped C)) : Cal P w K mg base 3 "step" (sp_step C) := by
  refine Cal.of F (F.fn.ok sc_step (fun vs H Q E h => ?_) (fun cdv A outer s H vs Q E hr h => ?_))
  · obtain ⟨I, x, si, ⟨v0, _, rfl, r0, v1, _, rfl, r1, v2, _, rfl, r2, rfl⟩, hp, k⟩ := h
    rfl
  · obtain ⟨I, ⟨x0, x1, x2, ⟨⟩⟩, si, ⟨v0, _, rfl, r0, v1, _, rfl, r1, v2, _, rfl, r2, rfl⟩, hp, k⟩ := h
    replace hp : KOk x0 ∧ x1.length = x0.1.toNat ∧ 0 ≤ x2 ∧ x2 < x0.1 := hp
    dsimp only at *
    refine ⟨_, (pss_cons (ps_set (i := 3) sc_step.nd rfl (Or.inr rfl) (pe_c c_with_one hr (by decide) (by rfl) (pa_cons (pv 1) (pa_cons (pv 2) pa_nil))))
    (pss_cons (ps_if (pt_val (pe_callB (kany K rfl) (by rfl) T.b_any boot_any (pa_cons (by exact (pe_lc (own := [("lot", 4)]) (g := gName 4) rfl sc_step.nd (ktup K (kfld K (pv 0))) (by exact (blkOk_by (N := N_step) (sc := (defScope s_step)) (by decide +kernel))) (fun _ _ _ _ _ => by exact (pg_name (i := 4) sc_step.nd rfl (Or.inl rfl))) (fun _ _ _ _ _ => by exact pts_nil) (fun _ _ _ _ _ => by exact (pe_c c_is_at_most hr (by decide) (by rfl) (pa_cons (pv 4) (pa_cons (pv 3) pa_nil)))))) pa_nil))) (pss_one (ps_ret (pe_tup (pa_cons pe_bl (pa_cons (pv 1) pa_nil))))) pss_nil)
    (pss_one (ps_ret (pe_tup (pa_cons pe_bl (pa_cons (pe_c c_capped hr (by decide) (by rfl) (pa_cons (pv 0) (pa_cons (pv 3) pa_nil))) pa_nil))))))), ?_⟩
    have h1 := hp.1.lo
    have h2 := hp.1.hi
    have hl : (withOne x1 x2).length = x1.length := by
      rw [withOne_set hp.2.2.1 (by have := hp.2.1; have := hp.2.2.2; omega), List.length_set]
    refine s_asg (M := M0) (e_call (a_cons (e_var r1) (a_cons (e_var r2) a_nil)) ?_) si True.intro (fun v1 I2 H3 e4 c5 q6 => ?_)
    · exact ⟨hp.2.2.1, by have := hp.2.1; have := hp.2.2.2; dsimp only; omega, by have := hp.2.1; dsimp only; omega⟩  -- pre of with_one
    refine s_if (M := M0) (c_val (e_anyL (e_lcN (f := fun (lot : (List Int)) => (isAtMost lot (withOne x1 x2))) (s_tup (e_lots KC (e_var (Mono.up r0 e4.ii)))) ?_ (fun i7 hi8 v12 J10 G11 x9 q13 => (e_call (a_cons (e_var q13) (a_cons (e_var (Mono.up q6 x9.ii)) a_nil)) ?_))))) e4.si True.intro (fun h14 I15 H16 e17 c18 => ?_) (fun h14 I15 H16 e17 c18 => ?_)
    · have := hp.1.few; rw [sizeLine_eq]; omega  -- comp len
    · show (x0.2[i7]).length < 1000; have := hp.1.len _ (List.getElem_mem hi8); omega  -- pre of is_at_most
    · refine s_ret (M := M0) (e_pair e_bl (e_var (Mono.up r1 (e4.ii.trans e17.ii)))) e17.si True.intro (fun v J G e c r => k v J G (e4.trans (e17.trans e)) (by unfold stepK; rw [if_pos h14]; exact r))
    · refine s_ret (M := M0) (e_pair e_bl (e_call (a_cons (e_var (Mono.up r0 (e4.ii.trans e17.ii))) (a_cons (e_var (Mono.up q6 e17.ii)) a_nil)) ?_)) e17.si True.intro (fun v J G e c r => k v J G (e4.trans (e17.trans e)) (by unfold stepK; rw [if_neg (by rw [h14]; exact Bool.false_ne_true)]; exact r))
      · exact ⟨hp.1, by have := hp.2.1; dsimp only; omega⟩  -- pre of capped
end
end KK

namespace KK
open PySem PySem.Spec PyProof.Rows L2 RZ DL
section
variable {P : Program} {w : World} {K : PySem.W.Frag} {mg : Str → Option Value} {base : Heap}
def runK (p : Kd) (s : List Int) (row : List Int) : List Bool × List Int := row.foldl (fun q k => (q.1 ++ [(stepK p q.2 k).1], (stepK p q.2 k).2)) ([], s)
theorem runK_snoc (p : Kd) (s : List Int) (row : List Int) (k : Int) : runK p s (row ++ [k]) = ((runK p s row).1 ++ [(stepK p (runK p s row).2 k).1], (stepK p (runK p s row).2 k).2) := by
  unfold runK
  rw [List.foldl_append]; rfl
theorem cappedK_len {p : Kd} {c : List Int} (h : c.length = p.1.toNat) : (cappedK p c).length = p.1.toNat := by
  unfold cappedK capsOf
  rw [List.length_map, List.length_zip, List.length_map, rng_length]
  omega
theorem stepK_len {p : Kd} {c : List Int} {k : Int} (h : c.length = p.1.toNat) (h0 : 0 ≤ k) (h1 : k < p.1) : (stepK p c k).2.length = p.1.toNat := by
  unfold stepK
  have hl : (withOne c k).length = p.1.toNat := by rw [withOne_set h0 (by omega), List.length_set, h]
  split
  · exact h
  · exact cappedK_len hl
structure RowOk (p : Kd) (row : List Int) : Prop where
  few : row.length ≤ 200
  all : ∀ k ∈ row, 0 ≤ k ∧ k < p.1
theorem RowOk.take {p : Kd} {row : List Int} (h : RowOk p row) (i : Nat) : RowOk p (row.take i) := ⟨Nat.le_trans (by rw [List.length_take]; omega) h.few, fun k hk => h.all k (List.mem_of_mem_take hk)⟩
theorem runK_len {p : Kd} {s : List Int} (h : s.length = p.1.toNat) : ∀ {row : List Int}, (∀ k ∈ row, 0 ≤ k ∧ k < p.1) → (runK p s row).1.length = row.length ∧ (runK p s row).2.length = p.1.toNat := by
  intro row
  refine snoc_ind (P := fun row => (∀ k ∈ row, 0 ≤ k ∧ k < p.1) → (runK p s row).1.length = row.length ∧ (runK p s row).2.length = p.1.toNat) (fun _ => ⟨rfl, h⟩) (fun row k ih => ?_) row
  · intro hr
    obtain ⟨i1, i2⟩ := ih fun k hk => hr k (List.mem_append_left _ hk)
    have hk := hr k (by simp)
    rw [runK_snoc]
    exact ⟨by simp [i1], stepK_len i2 hk.1 hk.2⟩
theorem take_snoc {α : Type} {xs : List α} {i : Nat} (h : i < xs.length) : xs.take (i + 1) = xs.take i ++ [xs[i]] := by
  rw [List.take_add_one, List.getElem?_eq_getElem h]; rfl
abbrev s_run : Stmt := topS 23
abbrev N_run : List Str := ["kinds", "state", "row", "found", "kind", "flag"]
theorem sc_run : FnScope N_run ["kinds", "state", "row"] (defScope s_run) := ⟨rfl, rfl, rfl, by decide +kernel, rfl, by decide +kernel, by decide +kernel⟩
abbrev sp_run (C : Addr) : Sp := DL.sp (aCons (dKinds C) (aCons (dT dI) (aCons (dT dI) aNil))) (fun x => KOk x.1 ∧ x.2.1.length = x.1.1.toNat ∧ RowOk x.1 x.2.2.1) (dP (dL dB) (dT dI)) (fun x => runK x.1 x.2.1 x.2.2.1)
theorem mk_run {C f : Addr} {fd : FuncData} (F : Df K mg "run" s_run ["kinds", "state", "row"] f fd) (T : Txt mg) (KC : KindsC K C) (c_step : Cal P w K mg base 3 "step" (sp_step C)) : Cal P w K mg base 4 "run" (sp_run C) := by
  refine Cal.of F (F.fn.ok sc_run (fun vs H Q E h => ?_) (fun cdv A outer s H vs Q E hr h => ?_))
  · obtain ⟨I, x, si, ⟨v0, _, rfl, r0, v1, _, rfl, r1, v2, _, rfl, r2, rfl⟩, hp, k⟩ := h
    rfl
  · obtain ⟨I, ⟨x0, x1, x2, ⟨⟩⟩, si, ⟨v0, _, rfl, r0, v1, _, rfl, r1, v2, _, rfl, r2, rfl⟩, hp, k⟩ := h
    replace hp : KOk x0 ∧ x1.length = x0.1.toNat ∧ RowOk x0 x2 := hp
    dsimp only at *
    refine ⟨_, (pss_cons (ps_set (i := 3) sc_run.nd rfl (Or.inl rfl) (pe_lst pa_nil))
    (pss_cons (ps_for PassesOwn.never rfl (ktup K (pv 2)) (pg_name (i := 4) sc_run.nd rfl (Or.inl rfl))
    (pss_cons (ps_asg (pe_c c_step hr (by decide) (by rfl) (pa_cons (pv 0) (pa_cons (pv 1) (pa_cons (pv 4) pa_nil)))) (kgtup K rfl (pgs_cons (pg_name (i := 5) sc_run.nd rfl (Or.inl rfl)) (pgs_cons (pg_name (i := 1) sc_run.nd rfl (Or.inl rfl)) pgs_nil))))
    (pss_one (ps_expr (pe_bm PySem.F.plainAttrs_list PySem.F.slot_list_append PySem.F.type_list_append mt_append (pv 3) (pa_cons (pv 5) pa_nil))))))
    (pss_one (ps_ret (pe_tup (pa_cons (pv 3) (pa_cons (pv 1) pa_nil))))))), ?_⟩
    obtain ⟨hp, hs, hr2⟩ := hp
    refine s_asgF (M := M0) (R := dB) (f_lst l_nil) si True.intro (fun a vs I1 H1 e1 c1 ha hI hH pv => ?_)
    cases pv
    refine s_for (M := M0) (s_tup (e_var (Mono.up r2 e1.ii))) b_name e1.si True.intro (fun i σ' J G => Ex0 I H J G ∧ ∃ ws x4 x5, σ' = [some v0, some ws, some v2, some (.ref a), x4, x5] ∧ J a = none ∧ G a = some (.lst ((runK x0 x1 (x2.take i)).1.map V.bl)) ∧ dT dI J ws (runK x0 x1 (x2.take i)).2) ?_ ?_ ?_ ?_
    · rintro i σ' J G J2 G2 e2 ⟨q0, ws, x4, x5, q1, q2, q3, q4⟩
      exact ⟨q0.trans e2, ws, x4, x5, q1, e2.out q2 (by rw [q3]; simp), e2.kp _ _ (fun z => z) q3, Mono.up q4 e2.ii⟩
    · intro J G e2 c2
      exact ⟨e1.trans e2, v1, none, none, rfl, e2.out hI (by rw [hH]; simp), e2.kp _ _ (fun z => z) hH, Mono.up r1 (e1.trans e2).ii⟩
    · rintro I0 s0 i hi σ1 σ2 J G sJ sG _ ⟨q0, ws, x4, x5, rfl, q2, q3, q4⟩ ⟨v, rfl, rv⟩
      have hk := hr2.all _ (List.getElem_mem hi)
      obtain ⟨l1, l2⟩ := runK_len hs (hr2.take i).all
      refine s_asgG (M := M0) (e_call (a_cons (e_var (Mono.up r0 q0.ii)) (a_cons (e_var q4) (a_cons (e_var rv) a_nil))) ⟨hp, l2, hk.1, hk.2⟩) b_pair sG True.intro (fun σ3 J2 G2 e3 c3 hσ => ?_)
      obtain ⟨y, z, rfl, ry, rz⟩ := hσ
      have hG2 := e3.kp _ _ (fun z => z) q3
      refine s_append (M := M0) rfl hG2 (e3.out q2 (by rw [q3]; simp)) (fun z => z) (e_var ry) e3.si True.intro (by rw [List.length_map, l1, List.length_take]; have := hr2.few; rw [sizeLine_eq]; omega) (fun u J3 G3 e4 c4 g1 g2 ru => ?_)
      have ex := (q0.trans (e3.trans e4)).put (o := .lst (((runK x0 x1 (x2.take i)).1.map V.bl) ++ [u])) (.inr ha) g2
      refine ⟨J3, sJ.trans (e3.trans e4).ii, ex.si, True.intro, ex, z, _, _, rfl, g2, ?_, ?_⟩
      · rw [upd_same, take_snoc hi, runK_snoc, List.map_append, show u = _ from ru]; rfl
      · rw [take_snoc hi, runK_snoc]
        exact Mono.up rz e4.ii
    · rintro σ1 J G sJ sG _ ⟨q0, ws, x4, x5, rfl, q2, q3, q4⟩
      rw [List.take_length] at q3 q4
      have z := q0.seal ha q3 q2
      refine s_ret (M := M0) (e_pair (R := dL dB) (x := (runK x0 x1 x2).1) (e_var ?_) (e_var (Mono.up q4 (Sub.in_ q2)))) z.si True.intro (fun v J2 G2 e c r => k v J2 G2 (z.trans e) r)
      exact ⟨a, _, rfl, upd_same, by
        have : ∀ l : List Bool, Paired (dB (upd J a (HO.lst (List.map V.bl (runK x0 x1 x2).1)))) (l.map V.bl) l := fun l => by
          induction l with
          | nil => exact .nil
          | cons b l ih => exact .cons rfl ih
        exact this _⟩
theorem begin_rep (p : Kd) : begin_ p = List.replicate p.1.toNat 0 := by
  unfold begin_
  induction p.1.toNat with
  | zero => rfl
  | succ n ih => rw [List.replicate_succ, List.flatten_cons, ih, List.replicate_succ]; rfl
theorem begin_len (p : Kd) : (begin_ p).length = p.1.toNat := by rw [begin_rep, List.length_replicate]
def enteredK (p : Kd) (row : List Int) : List Bool := (runK p (begin_ p) row).1
abbrev s_entered_in : Stmt := topS 24
abbrev N_entered_in : List Str := ["kinds", "row"]
theorem sc_entered_in : FnScope N_entered_in ["kinds", "row"] (defScope s_entered_in) := ⟨rfl, rfl, rfl, by decide +kernel, rfl, by decide +kernel, by decide +kernel⟩
abbrev sp_entered_in (C : Addr) : Sp := DL.sp (aCons (dKinds C) (aCons (dT dI) aNil)) (fun x => KOk x.1 ∧ RowOk x.1 x.2.1) (dL dB) (fun x => enteredK x.1 x.2.1)
theorem mk_entered_in {C f : Addr} {fd : FuncData} (F : Df K mg "entered_in" s_entered_in ["kinds", "row"] f fd) (T : Txt mg) (KC : KindsC K C) (c_begin : Cal P w K mg base 1 "begin" (sp_begin C)) (c_run : Cal P w K mg base 4 "run" (sp_run C)) : Cal P w K mg base 5 "entered_in" (sp_entered_in C) := by
  refine Cal.of F (F.fn.ok sc_entered_in (fun vs H Q E h => ?_) (fun cdv A outer s H vs Q E hr h => ?_))
  · obtain ⟨I, x, si, ⟨v0, _, rfl, r0, v1, _, rfl, r1, rfl⟩, hp, k⟩ := h
    rfl
  · obtain ⟨I, ⟨x0, x1, ⟨⟩⟩, si, ⟨v0, _, rfl, r0, v1, _, rfl, r1, rfl⟩, hp, k⟩ := h
    replace hp : KOk x0 ∧ RowOk x0 x1 := hp
    dsimp only at *
    refine ⟨_, (pss_one (ps_ret (pe_ix (kixT K) (pe_c c_run hr (by decide) (by rfl) (pa_cons (pv 0) (pa_cons (pe_c c_begin hr (by decide) (by rfl) (pa_cons (pv 0) pa_nil)) (pa_cons (pv 1) pa_nil)))) pe_int (fun _ _ => rfl)))), ?_⟩
    refine s_ret (M := M0) (e_ix0 (e_call (a_cons (e_var r0) (a_cons (e_call (a_cons (e_var r0) a_nil) hp.1) (a_cons (e_var r1) a_nil))) ⟨hp.1, begin_len _, hp.2⟩)) si True.intro (fun v J G e c r => k v J G e r)
/-- one comer more counted -/
def cnt1 (times : Int) (f : List Int) (q : Int × Bool) : List Int := f.set q.1.toNat (f.getD q.1.toNat 0 + times * (if q.2 = true then 1 else 0))
def countedK (p : Kd) (row : List Int) (flags : List Bool) (times : Int) : List Int := (row.zip flags).foldl (cnt1 times) (begin_ p)
theorem cnt_len (t : Int) : ∀ (l : List (Int × Bool)) (f : List Int), (l.foldl (cnt1 t) f).length = f.length
  | [], f => rfl
  | q :: l, f => by rw [List.foldl_cons, cnt_len t l]; unfold cnt1; rw [List.length_set]
theorem countedK_len (p : Kd) (row : List Int) (flags : List Bool) (t : Int) : (countedK p row flags t).length = p.1.toNat := by unfold countedK; rw [cnt_len, begin_len]
theorem ints_dL {J : Hp} {a : Addr} {xs : List Int} : dL dI (upd J a (.lst (xs.map V.int))) (.ref a) xs := ⟨a, _, rfl, upd_same, ints_paired⟩
abbrev s_counted : Stmt := topS 25
abbrev N_counted : List Str := ["kinds", "row", "flags", "times", "found", "kind", "flag"]
theorem sc_counted : FnScope N_counted ["kinds", "row", "flags", "times"] (defScope s_counted) := ⟨rfl, rfl, rfl, by decide +kernel, rfl, by decide +kernel, by decide +kernel⟩
abbrev sp_counted (C : Addr) : Sp := DL.sp (aCons (dKinds C) (aCons (dT dI) (aCons (dL dB) (aCons dI aNil)))) (fun x => KOk x.1 ∧ RowOk x.1 x.2.1) (dL dI) (fun x => countedK x.1 x.2.1 x.2.2.1 x.2.2.2.1)
theorem mk_counted {C f : Addr} {fd : FuncData} (F : Df K mg "counted" s_counted ["kinds", "row", "flags", "times"] f fd) (T : Txt mg) (KC : KindsC K C)  : Cal P w K mg base 1 "counted" (sp_counted C) := by
  refine Cal.of F (F.fn.ok sc_counted (fun vs H Q E h => ?_) (fun cdv A outer s H vs Q E hr h => ?_))
  · obtain ⟨I, x, si, ⟨v0, _, rfl, r0, v1, _, rfl, r1, v2, _, rfl, r2, v3, _, rfl, r3, rfl⟩, hp, k⟩ := h
    rfl
  · obtain ⟨I, ⟨x0, x1, x2, x3, ⟨⟩⟩, si, ⟨v0, _, rfl, r0, v1, _, rfl, r1, v2, _, rfl, r2, v3, _, rfl, r3, rfl⟩, hp, k⟩ := h
    replace hp : KOk x0 ∧ RowOk x0 x1 := hp
    dsimp only at *
    refine ⟨_, (pss_cons (ps_set (i := 4) sc_counted.nd rfl (Or.inl rfl) (pe_op op_rep (pe_lst (pa_cons pe_int pa_nil)) (kfld K (pv 0))))
    (pss_cons (ps_for PassesOwn.never rfl (kzip K rfl T.b_zip (pa_cons (pv 1) (pa_cons (pv 2) pa_nil))) (kgtup K rfl (pgs_cons (pg_name (i := 5) sc_counted.nd rfl (Or.inl rfl)) (pgs_cons (pg_name (i := 6) sc_counted.nd rfl (Or.inl rfl)) pgs_nil)))
    (pss_one (ps_augS (pv 4) (pv 5) get_list (pe_op op_mul (pv 3) (pe_callTy call_int1 (by rfl) T.b_int boot_int (pa_cons (pv 6) pa_nil))) ip_add set_list)))
    (pss_one (ps_ret (pv 4))))), ?_⟩
    obtain ⟨hp, hrow⟩ := hp
    have h1 := hp.lo
    have h2 := hp.hi
    refine s_asgF (M := M0) (f_repL (e_lst (l_cons (e_int (i := 0)) l_nil)) (e_many KC (e_var r0)) (by omega) (by omega) (by rw [sizeLine_eq]; simp only [List.length_singleton]; omega)) si True.intro (fun a vs I1 H1 e1 c1 ha hI hH pv => ?_)
    have ev := paired_ints pv
    subst ev
    refine s_for (M := M0) (s_zipTL (e_var (Mono.up r1 e1.ii)) (e_var (Mono.up r2 e1.ii))) b_pair e1.si True.intro (fun i σ' J G => Ex0 I H J G ∧ ∃ x5 x6, σ' = [some v0, some v1, some v2, some v3, some (.ref a), x5, x6] ∧ J a = none ∧ G a = some (.lst ((((x1.zip x2).take i).foldl (cnt1 x3) (begin_ x0)).map V.int))) ?_ ?_ ?_ ?_
    · rintro i σ' J G J2 G2 e2 ⟨q0, x5, x6, q1, q2, q3⟩
      exact ⟨q0.trans e2, x5, x6, q1, e2.out q2 (by rw [q3]; simp), e2.kp _ _ (fun z => z) q3⟩
    · intro J G e2 c2
      exact ⟨e1.trans e2, none, none, rfl, e2.out hI (by rw [hH]; simp), e2.kp _ _ (fun z => z) hH⟩
    · rintro I0 s0 i hi σ1 σ2 J G sJ sG _ ⟨q0, x5, x6, rfl, q2, q3⟩ ⟨v, w', rfl, rv, rw'⟩
      have hm : (x1.zip x2)[i].1 ∈ x1 := (List.of_mem_zip (List.getElem_mem hi)).1
      have hk := hrow.all _ hm
      have hl : (((x1.zip x2).take i).foldl (cnt1 x3) (begin_ x0)).length = x0.1.toNat := by rw [cnt_len, begin_len]
      refine s_augL (M := M0) (f := fun i j => i + j) rfl q3 q2 (fun z => z) (e_var rv) (e_i2c (e_var (Mono.up r3 q0.ii)) (e_intB (e_var rw')) (.inr (by split <;> decide))) sG True.intro hk.1 (by rw [hl]; omega) (fun J3 G3 e4 c4 g1 g2 => ?_)
      have ex := (q0.trans e4).put (o := .lst (((((x1.zip x2).take i).foldl (cnt1 x3) (begin_ x0)).set ((x1.zip x2)[i].1).toNat ((((x1.zip x2).take i).foldl (cnt1 x3) (begin_ x0)).getD ((x1.zip x2)[i].1).toNat 0 + x3 * (if (x1.zip x2)[i].2 = true then 1 else 0))).map V.int)) (.inr ha) g2
      refine ⟨J3, sJ.trans e4.ii, ex.si, True.intro, ex, _, _, rfl, g2, ?_⟩
      rw [upd_same, take_snoc hi, List.foldl_append]
      rfl
    · rintro σ1 J G sJ sG _ ⟨q0, x5, x6, rfl, q2, q3⟩
      rw [List.take_length] at q3
      have z := q0.seal ha q3 q2
      exact s_ret (M := M0) (e_var (ints_dL (J := J) (a := a) (xs := countedK x0 x1 x2 x3))) z.si True.intro (fun v J2 G2 e c r => k v J2 G2 (z.trans e) r)
end
end KK

namespace KK
open PySem PySem.Spec PyProof.Rows L2 RZ DL
section
variable {P : Program} {w : World} {K : PySem.W.Frag} {mg : Str → Option Value} {base : Heap}
/-! things given as rows -/
inductive Yv where
  | w (x : Wv)
  | t (xs : List Wv)
def dY : Rel Yv := fun I v y => match y with
  | .w x => dW I v x ∧ x.isTup = false
  | .t xs => dT dW I v xs
instance : Mono dY := ⟨fun {I I' v y} h s => by
  cases y with
  | w x => exact ⟨Mono.up h.1 s, h.2⟩
  | t xs => exact Mono.up (R := dT dW) h s⟩
def rowOkY (p : Kd) (y : Yv) : Bool := match y with
  | .w _ => false
  | .t xs => decide (xs.length ≤ 200) && (xs.map fun x => within x 0 (p.1 - 1)).all id
def Yv.few (y : Yv) : Prop := match y with
  | .w _ => True
  | .t xs => xs.length < 1000
abbrev s_is_row_of : Stmt := topS 16
abbrev N_is_row_of : List Str := ["kinds", "thing", "kind"]
theorem sc_is_row_of : FnScope N_is_row_of ["kinds", "thing"] (defScope s_is_row_of) := ⟨rfl, rfl, rfl, by decide +kernel, rfl, by decide +kernel, by decide +kernel⟩
abbrev sp_is_row_of (C : Addr) : Sp := DL.sp (aCons (dKinds C) (aCons dY aNil)) (fun x => KOk x.1 ∧ x.2.1.few) dB (fun x => rowOkY x.1 x.2.1)
theorem mk_is_row_of {C f : Addr} {fd : FuncData} (F : Df K mg "is_row_of" s_is_row_of ["kinds", "thing"] f fd) (T : Txt mg) (KC : KindsC K C) (c_is_within : Cal P w K mg base 2 "is_within" (sp_is_within C)) : Cal P w K mg base 3 "is_row_of" (sp_is_row_of C) := by
  refine Cal.of F (F.fn.ok sc_is_row_of (fun vs H Q E h => ?_) (fun cdv A outer s H vs Q E hr h => ?_))
  · obtain ⟨I, x, si, ⟨v0, _, rfl, r0, v1, _, rfl, r1, rfl⟩, hp, k⟩ := h
    rfl
  · obtain ⟨I, ⟨x0, x1, ⟨⟩⟩, si, ⟨v0, _, rfl, r0, v1, _, rfl, r1, rfl⟩, hp, k⟩ := h
    replace hp : KOk x0 ∧ x1.few := hp
    dsimp only at *
    refine ⟨_, (pss_cons (ps_if (PW.pt (pw_or (pt_not (pt_val (pe_callB (kisi K) (by rfl) T.b_isinstance boot_isinstance (pa_cons (pv 1) (pa_cons (pe_bltn (v := .ty "tuple") rfl T.b_tuple boot_tuple rfl) pa_nil))))) (pw_or1 (pt_cmpR op_gt (pe_callB (klen K) (by rfl) T.b_len PySem.boot_len (pa_cons (pv 1) pa_nil)) (pe_glob (v := .int 200) rfl T.c_MOST_ROW.choose_spec ⟨_, rfl⟩) (nomark _))))) (pss_one (ps_ret pe_bl)) pss_nil)
    (pss_one (ps_ret (pe_callB (kall K rfl) (by rfl) T.b_all boot_all (pa_cons (by exact (pe_lc (own := [("kind", 2)]) (g := gName 2) rfl sc_is_row_of.nd (ktup K (pv 1)) (by exact (blkOk_by (N := N_is_row_of) (sc := (defScope s_is_row_of)) (by decide +kernel))) (fun _ _ _ _ _ => by exact (pg_name (i := 2) sc_is_row_of.nd rfl (Or.inl rfl))) (fun _ _ _ _ _ => by exact pts_nil) (fun _ _ _ _ _ => by exact (pe_c c_is_within hr (by decide) (by rfl) (pa_cons (pv 2) (pa_cons pe_int (pa_cons (pe_op op_sub (kfld K (pv 0)) pe_int) pa_nil))))))) pa_nil))))), ?_⟩
    obtain ⟨hp, hf⟩ := hp
    cases x1 with
    | w x =>
      obtain ⟨hw, ht⟩ := r1
      refine s_if (M := M0) (b := true) ((c_or (b := false) (c_not (c_val (e_isiWt (e_var hw)))) (fun h => ?_)).eq (y := true) ?_) si True.intro (fun _ I1 H1 e1 c1 => ?_) (fun h => by cases h)
      · rw [ht] at h; cases h
      · rw [ht]; rfl
      · exact s_ret (M := M0) e_bl e1.si True.intro (fun v J G e c r => k v J G (e1.trans e) r)
    | t xs =>
      have hf : xs.length < 1000 := hf
      refine s_if (M := M0) (c_or (c_not (c_val (e_isi (b := true) (e_var (R := dT dW) (x := xs) r1) (fun I H v r s => ty_tup r s)))) (fun h => c_test (e_b2 (e_lenT (e_var (R := dT dW) (x := xs) r1)) e_int))) si True.intro (fun h1 I1 H1 e1 c1 => ?_) (fun h1 I1 H1 e1 c1 => ?_)
      · refine s_ret (M := M0) e_bl e1.si True.intro (fun v J G e c r => k v J G (e1.trans e) (r.trans ?_))
        have : ¬ xs.length ≤ 200 := by simp at h1; omega
        show V.bl false = V.bl (decide (xs.length ≤ 200) && _)
        rw [decide_eq_false this]; rfl
      · refine s_ret (M := M0) (e_allL (e_lcN (f := fun x => within x 0 (x0.1 - 1)) (s_tup (e_var (R := dT dW) (x := xs) (Mono.up (R := dT dW) r1 e1.ii))) (by rw [sizeLine_eq]; omega) (fun i hi v J G x q => e_call (a_cons (e_var q) (a_cons e_int (a_cons (e_i2 (e_many KC (e_var (Mono.up r0 (e1.ii.trans x.ii)))) e_int) a_nil))) True.intro))) e1.si True.intro (fun v J G e c r => k v J G (e1.trans e) (r.trans ?_))
        have : xs.length ≤ 200 := by simp at h1; omega
        show V.bl _ = V.bl (decide (xs.length ≤ 200) && _)
        rw [decide_eq_true this]; rfl
def RowY (row : List Int) : Yv := .t (row.map Wv.int)
theorem dY_row {I : Hp} {v : V} {row : List Int} (h : dT dI I v row) : dY I v (RowY row) := dT_map (f := Wv.int) (fun I v x h => h) h
theorem within_int {i a b : Int} : within (.int i) a b = (decide (a ≤ i) && decide (i ≤ b)) := rfl
theorem rowOkY_row {p : Kd} {row : List Int} (h : RowOk p row) : rowOkY p (RowY row) = true := by
  show (decide ((row.map Wv.int).length ≤ 200) && (((row.map Wv.int).map fun x => within x 0 (p.1 - 1)).all id)) = true
  rw [List.length_map, decide_eq_true h.few, Bool.true_and, List.map_map, List.all_map]
  refine List.all_eq_true.mpr fun k hk => ?_
  obtain ⟨h0, h1⟩ := h.all k hk
  show (decide (0 ≤ k) && decide (k ≤ p.1 - 1)) = true
  rw [decide_eq_true h0, decide_eq_true (by omega)]; rfl
/-! checks: where the thing is right, and where it is not -/
abbrev A_row (C : Addr) : Hp → List V → Kd × Yv × Unit → Prop := aCons (dKinds C) (aCons dY aNil)
abbrev sp_check_row (C Ek : Addr) : Sp := DL.spX (A_row C) (fun x => KOk x.1 ∧ x.2.1.few) (fun x => rowOkY x.1 x.2.1) (fun _ => .ref Ek) dN (fun _ => ())
abbrev spg_check_row (C : Addr) : Sp := DL.sp (A_row C) (fun x => KOk x.1 ∧ x.2.1.few ∧ rowOkY x.1 x.2.1 = true) dN (fun _ => ())
abbrev s_check_row : Stmt := topS 17
abbrev N_check_row : List Str := ["kinds", "thing"]
theorem sc_check_row : FnScope N_check_row ["kinds", "thing"] (defScope s_check_row) := ⟨rfl, rfl, rfl, by decide +kernel, rfl, by decide +kernel, by decide +kernel⟩
theorem mkX_check_row {C Ek f : Addr} {fd : FuncData} (F : Df K mg "check_row" s_check_row ["kinds", "thing"] f fd) (T : Txt mg) (KC : KindsC K C) (ek : Exc0 K mg "NoKinds" Ek) (c_is_row_of : Cal P w K mg base 3 "is_row_of" (sp_is_row_of C)) : CalX P w K mg base 4 "check_row" (sp_check_row C Ek) := by
  refine CalX.of F (F.fn.okX sc_check_row (fun vs H Q E h => ?_) (fun cdv A outer s H vs Q E hr h => ?_))
  · obtain ⟨I, x, si, ⟨v0, _, rfl, r0, v1, _, rfl, r1, rfl⟩, hp, k⟩ := h
    rfl
  · obtain ⟨I, ⟨x0, x1, ⟨⟩⟩, si, ⟨v0, _, rfl, r0, v1, _, rfl, r1, rfl⟩, hp, k1, k2⟩ := h
    dsimp only at *
    refine ⟨_, (pss_one (ps_if (pt_not (pt_val (pe_c c_is_row_of hr (by decide) (by rfl) (pa_cons (pv 0) (pa_cons (pv 1) pa_nil))))) (pss_one (ps_raise0 ek rfl tk_of (by rfl))) pss_nil)), ?_⟩
    refine s_if (M := M0) (c_not (c_val (e_call (a_cons (e_var r0) (a_cons (e_var r1) a_nil)) hp))) si True.intro (fun h I1 H1 e1 c1 => ?_) (fun h I1 H1 e1 c1 => ?_)
    · exact k2 (by simpa using h) _ _ e1
    · exact k1 (by simpa using h) _ _ _ e1 rfl
theorem mk_check_row {C f : Addr} {fd : FuncData} (F : Df K mg "check_row" s_check_row ["kinds", "thing"] f fd) (T : Txt mg) (KC : KindsC K C) (c_is_row_of : Cal P w K mg base 3 "is_row_of" (sp_is_row_of C)) : Cal P w K mg base 4 "check_row" (spg_check_row C) := by
  refine Cal.of F (F.fn.ok sc_check_row (fun vs H Q E h => ?_) (fun cdv A outer s H vs Q E hr h => ?_))
  · obtain ⟨I, x, si, ⟨v0, _, rfl, r0, v1, _, rfl, r1, rfl⟩, hp, k⟩ := h
    rfl
  · obtain ⟨I, ⟨x0, x1, ⟨⟩⟩, si, ⟨v0, _, rfl, r0, v1, _, rfl, r1, rfl⟩, hp, k1⟩ := h
    dsimp only at *
    refine ⟨_, (pss_one (ps_if (pt_not (pt_val (pe_c c_is_row_of hr (by decide) (by rfl) (pa_cons (pv 0) (pa_cons (pv 1) pa_nil))))) (pss_one ps_never) pss_nil)), ?_⟩
    refine s_if (M := M0) (c_not (c_val (e_call (a_cons (e_var r0) (a_cons (e_var r1) a_nil)) ⟨hp.1, hp.2.1⟩))) si True.intro (fun h I1 H1 e1 c1 => ?_) (fun h I1 H1 e1 c1 => ?_)
    · rw [hp.2.2] at h; cases h
    · exact k1 _ _ _ e1 rfl
end
end KK

namespace KK
open PySem PySem.Spec PyProof.Rows L2 RZ DL
section
variable {P : Program} {w : World} {K : PySem.W.Frag} {mg : Str → Option Value} {base : Heap}
theorem few_row {p : Kd} {row : List Int} (h : RowOk p row) : (RowY row).few := by
  show (row.map Wv.int).length < 1000
  rw [List.length_map]; have := h.few; omega
abbrev sp_entered_counts (C : Addr) : Sp := DL.sp (aCons (dKinds C) (aCons (dT dI) aNil)) (fun x => KOk x.1 ∧ RowOk x.1 x.2.1) (dT dI) (fun x => countedK x.1 x.2.1 (enteredK x.1 x.2.1) 1)
abbrev s_entered_counts : Stmt := topS 26
abbrev N_entered_counts : List Str := ["kinds", "row"]
theorem sc_entered_counts : FnScope N_entered_counts ["kinds", "row"] (defScope s_entered_counts) := ⟨rfl, rfl, rfl, by decide +kernel, rfl, by decide +kernel, by decide +kernel⟩
theorem mk_entered_counts {C f : Addr} {fd : FuncData} (F : Df K mg "entered_counts" s_entered_counts ["kinds", "row"] f fd) (T : Txt mg) (KC : KindsC K C) (c_check_row : Cal P w K mg base 4 "check_row" (spg_check_row C)) (c_entered_in : Cal P w K mg base 5 "entered_in" (sp_entered_in C)) (c_counted : Cal P w K mg base 1 "counted" (sp_counted C)) : Cal P w K mg base 6 "entered_counts" (sp_entered_counts C) := by
  refine Cal.of F (F.fn.ok sc_entered_counts (fun vs H Q E h => ?_) (fun cdv A outer s H vs Q E hr h => ?_))
  · obtain ⟨I, x, si, ⟨v0, _, rfl, r0, v1, _, rfl, r1, rfl⟩, hp, k⟩ := h
    rfl
  · obtain ⟨I, ⟨x0, x1, ⟨⟩⟩, si, ⟨v0, _, rfl, r0, v1, _, rfl, r1, rfl⟩, ⟨hp, hr2⟩, k⟩ := h
    dsimp only at *
    refine ⟨_, (pss_cons (ps_expr (pe_c c_check_row hr (by decide) (by rfl) (pa_cons (pv 0) (pa_cons (pv 1) pa_nil))))
    (pss_one (ps_ret (ktuple K (by rfl) T.b_tuple (pe_c c_counted hr (by decide) (by rfl) (pa_cons (pv 0) (pa_cons (pv 1) (pa_cons (pe_c c_entered_in hr (by decide) (by rfl) (pa_cons (pv 0) (pa_cons (pv 1) pa_nil))) (pa_cons pe_int pa_nil))))))))), ?_⟩
    refine s_drop (M := M0) (e_call (a_cons (e_var r0) (a_cons (D.mono (e_var r1) (fun I v h => dY_row h)) a_nil)) ⟨hp, few_row hr2, rowOkY_row hr2⟩) si True.intro (fun I1 H1 e1 c1 => ?_)
    exact s_ret (M := M0) (e_tupleL (e_call (a_cons (e_var (Mono.up r0 e1.ii)) (a_cons (e_var (Mono.up r1 e1.ii)) (a_cons (e_call (a_cons (e_var (Mono.up r0 e1.ii)) (a_cons (e_var (Mono.up r1 e1.ii)) a_nil)) ⟨hp, hr2⟩) (a_cons e_int a_nil)))) ⟨hp, hr2⟩)) e1.si True.intro (fun v J G e c r => k v J G (e1.trans e) r)
theorem cut_mem {α : Type} {xs : List α} {lo hi : Option Int} {x : α} (h : x ∈ cut xs lo hi) : x ∈ xs := List.mem_of_mem_drop (List.mem_of_mem_take h)
/-! ### making Kinds -/
def isCounts (m : Int) (l : List Int) : Bool := decide ((l.length : Int) = m) && ((l.map fun c => within (.int c) 0 4).all id && decide (1 < l.sum))
structure LotOk (m : Int) (l : List Int) : Prop where
  len : (l.length : Int) = m
  cap : ∀ c ∈ l, 0 ≤ c ∧ c ≤ 4
  sum : 1 < l.sum
theorem LotOk.is {m : Int} {l : List Int} (h : LotOk m l) : isCounts m l = true := by
  unfold isCounts
  rw [decide_eq_true h.len, decide_eq_true h.sum, Bool.true_and, Bool.and_true, List.all_map]
  refine List.all_eq_true.mpr fun c hc => ?_
  obtain ⟨h0, h1⟩ := h.cap c hc
  show (decide (0 ≤ c) && decide (c ≤ 4)) = true
  rw [decide_eq_true h0, decide_eq_true h1]; rfl
structure LotsOk (m : Int) (lots : List (List Int)) : Prop where
  lo : 1 ≤ m
  hi : m ≤ 3
  few : lots.length ≤ 12
  ok : ∀ l ∈ lots, LotOk m l
  asc : ∀ i (h : i + 1 < lots.length), HT.lexLt lots[i] lots[i + 1] = true
  anti : ∀ i j (hi : i < j) (hj : j < lots.length), isAtMost lots[j] lots[i] = false ∧ isAtMost lots[i] lots[j] = false
theorem LotsOk.kok {m : Int} {lots : List (List Int)} (h : LotsOk m lots) : KOk (m, lots) := ⟨h.lo, h.hi, h.few, fun l hl => by have := (h.ok l hl).len; show l.length = m.toNat; omega⟩
abbrev s_is_counts : Stmt := topS 12
abbrev N_is_counts : List Str := ["many", "thing", "count"]
theorem sc_is_counts : FnScope N_is_counts ["many", "thing"] (defScope s_is_counts) := ⟨rfl, rfl, rfl, by decide +kernel, rfl, by decide +kernel, by decide +kernel⟩
abbrev sp_is_counts (C : Addr) : Sp := DL.sp (aCons dI (aCons (dT dI) aNil)) (fun x => x.2.1.length < 1000) dB (fun x => isCounts x.1 x.2.1)
theorem mk_is_counts {C f : Addr} {fd : FuncData} (F : Df K mg "is_counts" s_is_counts ["many", "thing"] f fd) (T : Txt mg) (KC : KindsC K C) (c_is_within : Cal P w K mg base 2 "is_within" (sp_is_within C)) : Cal P w K mg base 3 "is_counts" (sp_is_counts C) := by
  refine Cal.of F (F.fn.ok sc_is_counts (fun vs H Q E h => ?_) (fun cdv A outer s H vs Q E hr h => ?_))
  · obtain ⟨I, x, si, ⟨v0, _, rfl, r0, v1, _, rfl, r1, rfl⟩, hp, k⟩ := h
    rfl
  · obtain ⟨I, ⟨x0, x1, ⟨⟩⟩, si, ⟨v0, _, rfl, r0, v1, _, rfl, r1, rfl⟩, hp, k⟩ := h
    replace hp : x1.length < 1000 := hp
    dsimp only at *
    refine ⟨_, (pss_cons (ps_if (PW.pt (pw_or (pt_not (pt_val (pe_callB (kisi K) (by rfl) T.b_isinstance boot_isinstance (pa_cons (pv 1) (pa_cons (pe_bltn (v := .ty "tuple") rfl T.b_tuple boot_tuple rfl) pa_nil))))) (pw_or1 (pt_cmpR op_ne (pe_callB (klen K) (by rfl) T.b_len PySem.boot_len (pa_cons (pv 1) pa_nil)) (pv 0) (nomark _))))) (pss_one (ps_ret pe_bl)) pss_nil)
    (pss_one (ps_ret (pe_and (pe_callB (kall K rfl) (by rfl) T.b_all boot_all (pa_cons (by exact (pe_lc (own := [("count", 2)]) (g := gName 2) rfl sc_is_counts.nd (ktup K (pv 1)) (by exact (blkOk_by (N := N_is_counts) (sc := (defScope s_is_counts)) (by decide +kernel))) (fun _ _ _ _ _ => by exact (pg_name (i := 2) sc_is_counts.nd rfl (Or.inl rfl))) (fun _ _ _ _ _ => by exact pts_nil) (fun _ _ _ _ _ => by exact (pe_c c_is_within hr (by decide) (by rfl) (pa_cons (pv 2) (pa_cons pe_int (pa_cons (pe_glob (v := .int 4) rfl T.c_MOST_COUNT.choose_spec ⟨_, rfl⟩) pa_nil))))))) pa_nil)) (pe_one (pe_cmpR op_gt (pe_callB (ksumA K rfl) (by rfl) T.b_sum boot_sum (pa_cons (pv 1) pa_nil)) pe_int (nomark _))))))), ?_⟩
    refine s_if (M := M0) (c_or (c_not (c_val (e_isi (b := true) (e_var r1) (fun I H v r s => ty_tup r s)))) (fun h => c_test (e_neI (e_lenT (e_var r1)) (e_var r0)))) si True.intro (fun h1 I1 H1 e1 c1 => ?_) (fun h1 I1 H1 e1 c1 => ?_)
    · refine s_ret (M := M0) e_bl e1.si True.intro (fun v J G e c r => k v J G (e1.trans e) (r.trans ?_))
      have : ¬ ((x1.length : Int) = x0) := by simpa using h1
      show V.bl false = V.bl (isCounts x0 x1)
      unfold isCounts
      rw [decide_eq_false this]; rfl
    · refine s_ret (M := M0) (e_and (e_allL (e_lcN (f := fun c => within (.int c) 0 4) (s_tup (e_var (Mono.up r1 e1.ii))) (by rw [sizeLine_eq]; omega) (fun i hi v J G x q => e_call (a_cons (e_asW (e_var q)) (a_cons e_int (a_cons e_int a_nil))) True.intro))) (fun _ => e_b2 (e_sumAT (e_var (Mono.up r1 e1.ii))) e_int)) e1.si True.intro (fun v J G e c r => k v J G (e1.trans e) (r.trans ?_))
      have : (x1.length : Int) = x0 := by simpa using h1
      show V.bl _ = V.bl (isCounts x0 x1)
      unfold isCounts
      rw [decide_eq_true this]; rfl
abbrev sp_first_wrong_counts (C : Addr) : Sp := DL.sp (aCons dI (aCons (dT (dT dI)) aNil)) (fun x => LotsOk x.1 x.2.1) dN (fun _ => ())
abbrev s_first_wrong_counts : Stmt := topS 14
abbrev N_first_wrong_counts : List Str := ["many", "lots", "at", "lot", "other"]
theorem sc_first_wrong_counts : FnScope N_first_wrong_counts ["many", "lots"] (defScope s_first_wrong_counts) := ⟨rfl, rfl, rfl, by decide +kernel, rfl, by decide +kernel, by decide +kernel⟩
theorem mk_first_wrong_counts {C f : Addr} {fd : FuncData} (F : Df K mg "first_wrong_counts" s_first_wrong_counts ["many", "lots"] f fd) (T : Txt mg) (c_is_counts : Cal P w K mg base 3 "is_counts" (sp_is_counts C)) (c_is_at_most : Cal P w K mg base 1 "is_at_most" (sp_is_at_most C)) : Cal P w K mg base 4 "first_wrong_counts" (sp_first_wrong_counts C) := by
  refine Cal.of F (F.fn.ok sc_first_wrong_counts (fun vs H Q E h => ?_) (fun cdv A outer s H vs Q E hr h => ?_))
  · obtain ⟨I, x, si, ⟨v0, _, rfl, r0, v1, _, rfl, r1, rfl⟩, hp, k⟩ := h
    rfl
  · obtain ⟨I, ⟨x0, x1, ⟨⟩⟩, si, ⟨v0, _, rfl, r0, v1, _, rfl, r1, rfl⟩, hp, k⟩ := h
    replace hp : LotsOk x0 x1 := hp
    dsimp only at *
    refine ⟨_, (pss_cons (ps_for PassesOwn.never rfl (kenum K rfl T.b_enumerate (pa_cons (pv 1) pa_nil)) (kgtup K rfl (pgs_cons (pg_name (i := 2) sc_first_wrong_counts.nd rfl (Or.inl rfl)) (pgs_cons (pg_name (i := 3) sc_first_wrong_counts.nd rfl (Or.inr rfl)) pgs_nil)))
    (pss_cons (ps_if (PW.pt (pw_or (pt_not (pt_val (pe_c c_is_counts hr (by decide) (by rfl) (pa_cons (pv 0) (pa_cons (pv 3) pa_nil))))) (pw_or1 (PW.pt (pw_and (pt_cmpR op_gt (pv 2) pe_int (nomark _)) (pw_and1 (pt_not (pt_cmpR (kltT K hr.units0) (pe_ix (kixT K) (pv 1) (pe_op op_sub (pv 2) pe_int) (fun _ _ => rfl)) (pv 3) (nomark _))))))))) (pss_one (ps_ret (pv 2))) pss_nil)
    (pss_one (ps_if (pt_val (pe_callB (kany K rfl) (by rfl) T.b_any boot_any (pa_cons (by exact (pe_lc (own := [("other", 4)]) (g := gName 4) rfl sc_first_wrong_counts.nd (ktup K (pe_slice (kslT K) (pv 1) po_none (po_some (pv 2)))) (by exact (blkOk_by (N := N_first_wrong_counts) (sc := (defScope s_first_wrong_counts)) (by decide +kernel))) (fun _ _ _ _ _ => by exact (pg_name (i := 4) sc_first_wrong_counts.nd rfl (Or.inl rfl))) (fun _ _ _ _ _ => by exact pts_nil) (fun _ _ _ _ _ => by exact (pe_or (pe_c c_is_at_most hr (by decide) (by rfl) (pa_cons (pv 3) (pa_cons (pv 4) pa_nil))) (pe_one (pe_c c_is_at_most hr (by decide) (by rfl) (pa_cons (pv 4) (pa_cons (pv 3) pa_nil)))))))) pa_nil))) (pss_one (ps_ret (pv 2))) pss_nil))))
    (pss_one (ps_ret pe_non))), ?_⟩
    have hlen : ∀ l ∈ x1, l.length < 1000 := fun l hl => by have := (hp.ok l hl).len; have := hp.hi; omega
    have hfew := hp.few
    refine s_for (M := M0) (s_enumT (e_var r1)) b_pair si True.intro (fun i σ' J G => Ex0 I H J G ∧ ∃ x2 x3 x4, σ' = [some v0, some v1, x2, x3, x4]) ?_ ?_ ?_ ?_
    · rintro i σ' J G J2 G2 e2 ⟨q0, q1⟩
      exact ⟨q0.trans e2, q1⟩
    · intro J G e2 c2
      exact ⟨e2, none, none, none, rfl⟩
    · rintro I0 s0 i hi σ1 σ2 J G sJ sG _ ⟨q0, x2, x3, x4, rfl⟩ ⟨v, w', rfl, rv, rw'⟩
      have hi1 : i < x1.length := by rw [← enum_length]; exact hi
      have he : (enum x1)[i] = ((i : Int), x1[i]) := by
        have q := enum_get? (xs := x1) (i := i) (List.getElem?_eq_getElem hi1)
        rw [List.getElem?_eq_getElem hi] at q
        exact Option.some.inj q
      rw [he] at rv rw'
      dsimp only at rv rw'
      have hL : x1[i] ∈ x1 := List.getElem_mem hi1
      have no1 : (!isCounts x0 x1[i] || (decide (0 < (i : Int)) && !HT.lexLt (x1.getD ((i : Int) - 1).toNat []) x1[i])) = false := by
        rw [(hp.ok _ hL).is]
        cases i with
        | zero => rfl
        | succ j =>
          have hj : j < x1.length := by omega
          have q := hp.asc j hi1
          have e1 : x1.getD (((j + 1 : Nat) : Int) - 1).toNat [] = x1[j] := by
            rw [show (((j + 1 : Nat) : Int) - 1).toNat = j by omega, List.getD_eq_getElem?_getD, List.getElem?_eq_getElem hj]; rfl
          rw [e1, q]; simp
      refine s_if (M := M0) (c_or (c_not (c_val (e_call (a_cons (e_var (Mono.up r0 q0.ii)) (a_cons (e_var rw') a_nil)) (hlen _ hL)))) (fun _ => c_and (c_test (e_b2 (e_var rv) e_int)) (fun h0 => c_not (c_test (e_ltT (e_ixT (e_var (Mono.up r1 q0.ii)) (e_i2 (e_var rv) e_int) (atI_getD [] (by have := of_decide_eq_true h0; omega) (by omega))) (e_var rw')))))) sG True.intro (fun h1 J1 G1 e1 c1 => ?_) (fun h1 J1 G1 e1 c1 => ?_)
      · exact absurd h1 (by rw [no1]; exact Bool.false_ne_true)
      have p1 := q0.trans e1
      have ec : cut x1 none (some (i : Int)) = x1.take i := by rw [cut_to (by omega) (by omega)]; rfl
      have no2 : ((cut x1 none (some (i : Int))).map fun o => isAtMost x1[i] o || isAtMost o x1[i]).any id = false := by
        rw [ec, List.any_map, List.any_eq_false]
        intro o ho
        obtain ⟨j, hj, rfl⟩ := List.getElem_of_mem ho
        have hj2 : j < i := by rw [List.length_take] at hj; omega
        have q := hp.anti j i hj2 hi1
        rw [List.getElem_take]
        show ¬ ((isAtMost x1[i] x1[j] || isAtMost x1[j] x1[i]) = true)
        rw [q.1, q.2]; exact Bool.false_ne_true
      refine s_if (M := M0) (c_val (e_anyL (e_lcN (f := fun o => isAtMost x1[i] o || isAtMost o x1[i]) (s_tup (e_slT (e_var (Mono.up r1 p1.ii)) o_none (o_some (e_var (Mono.up rv e1.ii))))) (by have := cut_len x1 none (some (i : Int)); rw [sizeLine_eq]; omega) (fun j hj v J2 G2 x2 q2 =>
        e_or (e_call (a_cons (e_var (Mono.up rw' (e1.ii.trans x2.ii))) (a_cons (e_var q2) a_nil)) (hlen _ hL)) (fun _ => e_call (a_cons (e_var q2) (a_cons (e_var (Mono.up rw' (e1.ii.trans x2.ii))) a_nil)) (hlen _ (cut_mem (List.getElem_mem hj)))))))) e1.si True.intro (fun h1 J2 G2 e2 c2 => ?_) (fun h1 J2 G2 e2 c2 => ?_)
      · exact absurd h1 (by rw [no2]; exact Bool.false_ne_true)
      · exact ⟨J2, sJ.trans (e1.trans e2).ii, e2.si, True.intro, p1.trans e2, _, _, _, rfl⟩
    · rintro σ1 J G sJ sG _ ⟨q0, x2, x3, x4, rfl⟩
      show tRet (tC .non) { nx := fun x H' => Q V.non H', rt := Q } [some v0, some v1, x2, x3, x4] G
      exact s_ret (M := M0) e_non sG True.intro (fun v J2 G2 e c r => k v J2 G2 (q0.trans e) r)
abbrev kfs (vm vl : V) : List (Str × V) := [("many", vm), ("lots", vl)]
def sp_kinds (C : Addr) : Sp := fun vs H Q _ => ∃ I a dx vm vl m lots, vs = [.ref a, vm, vl] ∧ Sub I H ∧ I a = none ∧ H a = some (.ins C dx []) ∧ dI I vm m ∧ dT (dT dI) I vl lots ∧ LotsOk m lots ∧
  ∀ I' H', Ex0 I H I' H' → I' a = none → Q .non (upd H' a (.ins C dx (kfs vm vl)))
abbrev s_Kinds___init__ : Stmt := inClass (topS 15) 0
abbrev N_Kinds___init__ : List Str := ["self", "many", "lots", "at"]
theorem sc_Kinds___init__ : FnScope N_Kinds___init__ ["self", "many", "lots"] (defScope s_Kinds___init__) := ⟨rfl, rfl, rfl, by decide +kernel, rfl, by decide +kernel, by decide +kernel⟩
theorem mk_kinds {C f : Addr} {fd : FuncData} (F : L2.Fun K "__init__" "Kinds.__init__" s_Kinds___init__ f fd) (T : Txt mg) (KC : KindsC K C) (c_is_within : Cal P w K mg base 2 "is_within" (sp_is_within C)) (c_first_wrong_counts : Cal P w K mg base 4 "first_wrong_counts" (sp_first_wrong_counts C)) :
    FnOk P w K mg base L2.CX0 5 f fd ["self", "many", "lots"] (sp_kinds C) := by
  refine F.ok sc_Kinds___init__ (fun vs H Q E h => ?_) (fun cdv A outer s H vs Q E hr h => ?_)
  · obtain ⟨I, a, dx, vm, vl, m, lots, rfl, _⟩ := h
    rfl
  · obtain ⟨I, a, dx, vm, vl, m, lots, rfl, si, hI, hH, rm, rl, hp, k⟩ := h
    refine ⟨_, (pss_cons (ps_if (pt_not (pt_val (pe_c c_is_within hr (by decide) (by rfl) (pa_cons (pv 1) (pa_cons pe_int (pa_cons (pe_glob (v := .int 3) rfl T.c_MOST_KINDS.choose_spec ⟨_, rfl⟩) pa_nil)))))) (pss_one ps_never) pss_nil)
    (pss_cons (ps_if (PW.pt (pw_or (pt_not (pt_val (pe_callB (kisi K) (by rfl) T.b_isinstance boot_isinstance (pa_cons (pv 2) (pa_cons (pe_bltn (v := .ty "tuple") rfl T.b_tuple boot_tuple rfl) pa_nil))))) (pw_or1 (pt_cmpR op_gt (pe_callB (klen K) (by rfl) T.b_len PySem.boot_len (pa_cons (pv 2) pa_nil)) (pe_glob (v := .int 12) rfl T.c_MOST_LOTS.choose_spec ⟨_, rfl⟩) (nomark _))))) (pss_one ps_never) pss_nil)
    (pss_cons (ps_set (i := 3) sc_Kinds___init__.nd rfl (Or.inl rfl) (pe_c c_first_wrong_counts hr (by decide) (by rfl) (pa_cons (pv 1) (pa_cons (pv 2) pa_nil))))
    (pss_cons (ps_if (pt_cmp (pc_notN (pv 3))) (pss_one ps_never) pss_nil)
    (pss_cons (ps_fld (pv 0) (pv 1) rfl)
    (pss_one (ps_fld (pv 0) (pv 2) rfl))))))), ?_⟩
    have hlo := hp.lo
    have hhi := hp.hi
    have hfew := hp.few
    refine s_if (M := M0) (c_not (c_val (e_call (a_cons (e_asW (e_var rm)) (a_cons e_int (a_cons e_int a_nil))) True.intro))) si True.intro (fun h1 I1 H1 e1 c1 => ?_) (fun h1 I1 H1 e1 c1 => ?_)
    · exact absurd h1 (by
        show ¬ ((!(decide (1 ≤ m) && decide (m ≤ 3))) = true)
        rw [decide_eq_true hlo, decide_eq_true hhi]; exact Bool.false_ne_true)
    refine s_if (M := M0) (c_or (c_not (c_val (e_isi (b := true) (e_var (Mono.up rl e1.ii)) (fun I H v r s => ty_tup r s)))) (fun h => c_test (e_b2 (e_lenT (e_var (Mono.up rl e1.ii))) e_int))) e1.si True.intro (fun h2 I2 H2 e2 c2 => ?_) (fun h2 I2 H2 e2 c2 => ?_)
    · exact absurd h2 (by
        have : ¬ ((12 : Int) < lots.length) := by omega
        rw [decide_eq_false this]; exact Bool.false_ne_true)
    have p2 := e1.trans e2
    refine s_asg (M := M0) (e_call (a_cons (e_var (Mono.up rm p2.ii)) (a_cons (e_var (Mono.up rl p2.ii)) a_nil)) hp) e2.si True.intro (fun v3 I3 H3 e3 c3 q3 => ?_)
    refine s_if (M := M0) (c_val (e_notN (R := dI) (x := none) (fun I v y h => by rw [show v = _ from h]; exact fun z => nomatch z) (D.mono (e_var q3) (fun I v h => h)))) e3.si True.intro (fun h4 I4 H4 e4 c4 => ?_) (fun h4 I4 H4 e4 c4 => ?_)
    · cases h4
    have p4 := (p2.trans e3).trans e4
    have hH4 : H4 a = some (.ins C dx []) := p4.kp _ _ (fun z => z) hH
    have hI4 : I4 a = none := p4.out hI (by rw [hH]; simp)
    refine ⟨vm, rfl, .ref a, rfl, a, C, dx, [], rfl, hH4, KC.cl, KC.n1, by decide, ?_⟩
    refine ⟨vl, rfl, .ref a, rfl, a, C, dx, [("many", vm)], rfl, upd_same, KC.cl, KC.n2, (by show 1 < 1000; decide), ?_⟩
    show Q .non (upd (upd H4 a _) a _)
    rw [upd_upd]
    exact k I4 H4 p4 hI4
theorem e_kinds {M : Mode} {σ : L2.St} {I H : Hp} {C : Addr} {ta : TA} {m : Int} {lots : List (List Int)} {E : XK} (ha : DA M ta σ I H (aCons dI (aCons (dT (dT dI)) aNil)) (m, lots, ())) (hp : LotsOk m lots) : D M (tMake C (sp_kinds C) [] E ta) σ I H (dKinds C) (m, lots) := fun I1 H1 e c Q k =>
  ha I1 H1 e c _ fun vs I2 H2 e2 c2 q => fun x dx hx hdx hne => by
    obtain ⟨vm, r, rfl, rm, vl, r', rfl, rl, rfl⟩ := q
    have f1 : Ex M.m I2 H2 I2 (upd H2 dx (.own x)) := Ex.cell e2.si hdx
    have hx1 : upd H2 dx (.own x) x = none := by rw [upd_ne (Ne.symm hne)]; exact hx
    have f2 : Ex M.m I2 H2 I2 (upd (upd H2 dx (.own x)) x (.ins C dx [])) := f1.trans (Ex.cell f1.si hx1)
    have c3 : M.C I2 (upd (upd H2 dx (.own x)) x (.ins C dx [])) := M.put (M.put c2 (M.fresh c2 hdx)) (M.fresh c2 hx)
    refine ⟨I2, x, dx, vm, vl, m, lots, rfl, f2.si, e2.si.nn hx, upd_same, rm, rl, hp, fun I' H' e3 hI' => ⟨rfl, ?_⟩⟩
    have g := (f2.trans e3.of0).put (o := .ins C dx (kfs vm vl)) (.inr hx) hI'
    have g2 := g.seal hx upd_same hI'
    have c4 : M.C (upd I' x (.ins C dx (kfs vm vl))) (upd H' x (.ins C dx (kfs vm vl))) :=
      M.st0 (M.put (M.st e3 c3) (M.fresh c2 hx)) (fun b o _ h => h) fun b hb n => by
        rw [upd_ne (show b ≠ x from fun q => (M.fresh c2 hx) (by rw [← q]; exact hb))]; exact n
    refine k _ _ _ (e2.trans g2) c4 ⟨x, dx, vl, kfs vm vl, rfl, upd_same, ?_, rfl, Mono.up rl g2.ii⟩
    rw [show vm = _ from rm]; rfl
end
end KK

namespace KK
open PySem PySem.Spec PyProof.Rows L2 RZ DL
section
variable {P : Program} {w : World} {K : PySem.W.Frag} {mg : Str → Option Value} {base : Heap}
abbrev sp_law_draw : Sp := spH (aCons dI aNil) (fun x => 0 < x.1 ∧ x.1 < 2 ^ 63) dI (fun x d => 0 ≤ d ∧ d < x.1)
abbrev s_law_draw : Stmt := topS 37
abbrev N_law_draw : List Str := ["hand", "many", "cell", "digit", "number"]
theorem sc_law_draw : FnScope N_law_draw ["hand", "many"] (defScope s_law_draw) := ⟨rfl, rfl, rfl, by decide +kernel, rfl, by decide +kernel, by decide +kernel⟩
theorem mk_law_draw {f : Addr} {fd : FuncData} (F : Df K mg "_law_draw" s_law_draw ["hand", "many"] f fd) (T : Txt mg) : Cal P w K mg base 1 "_law_draw" sp_law_draw := by
  refine Cal.of F (F.fn.ok sc_law_draw (fun vs H Q E h => ?_) (fun cdv A outer s H vs Q E hr h => ?_))
  · obtain ⟨hp, c, r, I, x, rfl, si, cc, ⟨v1, _, rfl, r1, rfl⟩, hm, k⟩ := h
    rfl
  · obtain ⟨hp, c, r, I, ⟨many, ⟨⟩⟩, rfl, si, ⟨h0, hi0, cc⟩, ⟨v1, _, rfl, r1, rfl⟩, ⟨hm, hm2⟩, k⟩ := h
    dsimp only at *
    have hlog : many.natAbs.log2 < 9000 := by
      have h1 : many.natAbs < 2 ^ 63 := by omega
      have h2 : many.natAbs ≠ 0 := by omega
      exact Nat.lt_trans ((Nat.log2_lt h2).mpr h1) (by decide)
    have hmul : ∀ z y : Int, CMul (z % 2147483399) y := fun z y => by
      have n1 := Int.emod_nonneg z (show (2147483399 : Int) ≠ 0 by decide)
      have n2 := Int.emod_lt_of_pos z (show (0 : Int) < 2147483399 by decide)
      exact .inl ⟨by omega, by omega⟩
    obtain ⟨t2, hd2, hr2⟩ : ∃ t2, PSs (cxOf CX0 P w K mg base N_law_draw "_law_draw" (defScope s_law_draw) f cdv A outer s H E).nox ((defBody s_law_draw).drop 1) t2 ∧
        ∀ (h : Hand) (J G : Hp) (x2 : Option V), 0 ≤ h.i → HC hp c h J G → Ex (HM hp c).m I H J G → t2 { nx := fun _ H' => Q .non H', rt := Q } [some (.ref hp), some v1, x2, none, none] G := by
      refine ⟨_, (pss_cons (ps_if (pt_cmpR op_gt (pe_ix (kixL K) (pv 0) pe_int (fun _ _ => rfl)) pe_int (nomark _)) (pss_cons (ps_set (i := 3) sc_law_draw.nd rfl (Or.inl rfl) (pe_op op_mod (pe_callTy call_int1 (by rfl) T.b_int boot_int (pa_cons (pe_ix (kixL K) (pv 0) pe_int (fun _ _ => rfl)) pa_nil)) (pv 1)))
    (pss_cons (ps_asg (pe_op op_fdivW (pe_callTy call_int1 (by rfl) T.b_int boot_int (pa_cons (pe_ix (kixL K) (pv 0) pe_int (fun _ _ => rfl)) pa_nil)) (pv 1)) (pg_sub (pv 0) pe_int set_list))
    (pss_one (ps_ret (pv 3))))) pss_nil)
    (pss_cons (ps_asg (pe_op op_add (pe_ix (kixL K) (pv 0) pe_int (fun _ _ => rfl)) pe_int) (pg_sub (pv 0) pe_int set_list))
    (pss_cons (ps_set (i := 4) sc_law_draw.nd rfl (Or.inl rfl) (pe_op op_mod (pe_callTy call_int1 (by rfl) T.b_int boot_int (pa_cons (pe_op op_mul (pe_callTy call_int1 (by rfl) T.b_int boot_int (pa_cons (pe_op op_add (pe_ix (kixL K) (pv 0) pe_int (fun _ _ => rfl)) (pe_op op_mul pe_int (pe_ix (kixL K) (pv 0) pe_int (fun _ _ => rfl)))) pa_nil)) pe_int) pa_nil)) pe_int))
    (pss_cons (ps_set (i := 4) sc_law_draw.nd rfl (Or.inl rfl) (pe_op op_mod (pe_callTy call_int1 (by rfl) T.b_int boot_int (pa_cons (pe_op op_mul (pv 4) (pe_op op_add (pe_op op_fdiv (pv 4) pe_int) pe_int)) pa_nil)) pe_int))
    (pss_one (ps_ret (pe_op op_mod (pe_callTy call_int1 (by rfl) T.b_int boot_int (pa_cons (pe_op op_fdiv (pv 4) pe_int) pa_nil)) (pv 1)))))))), ?_⟩
      intro h J G x2 hi cc ex
      refine s_if (M := HF hp c h) (c_test (e_b2 (e_hand (k := 2) rfl rfl) e_int)) ex.si cc (fun hb J1 G1 e1 c1 => ?_) (fun hb J1 G1 e1 c1 => ?_)
      · have p1 := ex.trans e1.of0
        refine s_asg (M := HF hp c h) (e_i2c (e_intI (e_hand (k := 2) rfl rfl)) (e_var (Mono.up r1 p1.ii)) hm) e1.si c1 (fun v3 J2 G2 e2 c2 q3 => ?_)
        have p2 := p1.trans e2.of0
        refine s_hset (h' := { h with left := h.left / many }) rfl (e_i2c (e_intI (e_hand (k := 2) rfl rfl)) (e_var (Mono.up r1 p2.ii)) ⟨hm, hlog⟩) e2.si c2 (k := 2) rfl rfl rfl (fun J3 G3 e3 c3 s3 => ?_)
        have p3 := p2.trans e3
        exact s_ret (M := HF hp c _) (e_var (Mono.up q3 e3.ii)) s3 c3 (fun v J4 G4 e4 c4 r => k v _ J4 G4 (p3.trans e4.of0) ⟨{ h with left := h.left / many }, hi, c4⟩ r ⟨Int.emod_nonneg _ (by omega), Int.emod_lt_of_pos _ hm⟩)
      · have p1 := ex.trans e1.of0
        refine s_hset (h := h) (h' := { h with cnt := h.cnt + 1 }) rfl (e_i2 (e_hand (k := 4) rfl rfl) e_int) e1.si c1 (k := 4) rfl rfl rfl (fun J2 G2 e2 c2 s2 => ?_)
        have p2 := p1.trans e2
        refine s_asg (M := HF hp c { h with cnt := h.cnt + 1 }) (e_i2c (e_intI (e_i2c (e_intI (e_i2 (e_hand (k := 3) rfl rfl) (e_i2c e_int (e_hand (k := 4) rfl rfl) (.inl (by decide))))) e_int (.inr (by decide)))) e_int (by decide)) s2 c2 (fun v4 J3 G3 e3 c3 q4 => ?_)
        refine s_asg (M := HF hp c { h with cnt := h.cnt + 1 }) (e_i2c (e_intI (e_i2c (e_var q4) (e_i2 (e_i2c (e_var q4) e_int ⟨by decide, by decide⟩) e_int) (hmul _ _))) e_int (by decide)) e3.si c3 (fun v5 J4 G4 e4 c4 q5 => ?_)
        have p4 := (p2.trans e3.of0).trans e4.of0
        exact s_ret (M := HF hp c { h with cnt := h.cnt + 1 }) (e_i2c (e_intI (e_i2c (e_var q5) e_int ⟨by decide, by decide⟩)) (e_var (Mono.up r1 p4.ii)) hm) e4.si c4 (fun v J5 G5 e5 c5 r => k v _ J5 G5 (p4.trans e5.of0) ⟨{ h with cnt := h.cnt + 1 }, hi, c5⟩ r ⟨Int.emod_nonneg _ (by omega), Int.emod_lt_of_pos _ hm⟩)
    refine ⟨_, pss_cons (ps_if (PW.pt (pw_and (pt_cmpR op_eq (pe_ix (kixL K) (pv 0) pe_int (fun _ _ => rfl)) pe_int (nomark _)) (pw_and1 (pt_cmpR op_lt (pe_ix (kixL K) (pv 0) pe_int (fun _ _ => rfl)) (pe_callB (klen K) (by rfl) T.b_len PySem.boot_len (pa_cons (pe_ix (kixL K) (pv 0) pe_int (fun _ _ => rfl)) pa_nil)) (nomark _))))) (pss_cons (ps_set (i := 2) sc_law_draw.nd rfl (Or.inl rfl) (pe_ix (kixL K) (pe_ix (kixL K) (pv 0) pe_int (fun _ _ => rfl)) (pe_ix (kixL K) (pv 0) pe_int (fun _ _ => rfl)) (fun _ _ => rfl)))
    (pss_cons (ps_asg (pe_op op_add (pe_ix (kixL K) (pv 0) pe_int (fun _ _ => rfl)) pe_int) (pg_sub (pv 0) pe_int set_list))
    (pss_cons (ps_asg (pe_op op_mod (pe_callTy call_int1 (by rfl) T.b_int boot_int (pa_cons (pe_op op_add (pe_op op_add (pe_op op_mul (pe_ix (kixL K) (pv 0) pe_int (fun _ _ => rfl)) pe_int) (pe_op op_mul (pe_op op_mod (pv 2) pe_int) pe_int)) pe_int) pa_nil)) pe_int) (pg_sub (pv 0) pe_int set_list))
    (pss_one (ps_if (pt_cmpR op_ge (pv 2) (pe_op op_pow pe_int pe_int) (nomark _)) (pss_one (ps_asg (pv 2) (pg_sub (pv 0) pe_int set_list))) pss_nil))))) pss_nil) hd2, ?_⟩
    refine s_if (M := HF hp c h0) (c_and (c_test (e_eqI (e_hand (k := 2) rfl rfl) e_int)) (fun _ => c_test (e_b2 (e_hand (k := 1) rfl rfl) (e_hlen rfl)))) si cc (fun hb J1 G1 e1 c1 => ?_) (fun hb J1 G1 e1 c1 => ?_)
    · have hlt : h0.i < h0.cells.length := by
        rw [Bool.and_eq_true] at hb
        exact of_decide_eq_true hb.2
      refine s_asg (M := HF hp c h0) (e_hcell rfl (e_hand (k := 1) rfl rfl) (atI_getD 0 hi0 hlt)) e1.si c1 (fun v2 J2 G2 e2 c2 q2 => ?_)
      refine s_hset (h := h0) (h' := ⟨h0.i + 1, h0.left, h0.mix, h0.cnt, h0.cells⟩) rfl (e_i2 (e_hand (k := 1) rfl rfl) e_int) e2.si c2 (k := 1) rfl rfl rfl (fun J3 G3 e3 c3 s3 => ?_)
      refine s_hset (h := ⟨h0.i + 1, h0.left, h0.mix, h0.cnt, h0.cells⟩) (h' := ⟨h0.i + 1, h0.left, (h0.mix * 48271 + h0.cells.getD h0.i.toNat 0 % 2147483629 * 69621 + 17) % 2147483629, h0.cnt, h0.cells⟩) rfl (e_i2c (e_intI (e_i2 (e_i2 (e_i2c (e_hand (k := 3) rfl rfl) e_int (.inr (by decide))) (e_i2c (e_i2c (e_var (Mono.up q2 e3.ii)) e_int (by decide)) e_int (.inr (by decide)))) e_int)) e_int (by decide)) s3 c3 (k := 3) rfl rfl rfl (fun J4 G4 e4 c4 s4 => ?_)
      have p4 := ((((Ex.of0 e1).trans (Ex.of0 e2)).trans e3).trans e4)
      refine s_if (M := HF hp c _) (c_test (e_b2 (e_var (Mono.up q2 (e3.ii.trans e4.ii))) (e_i2c e_int e_int ⟨by decide, by decide, by decide⟩))) s4 c4 (fun hb J5 G5 e5 c5 => ?_) (fun hb J5 G5 e5 c5 => ?_)
      · have p5 := p4.trans e5.of0
        refine s_hset (h' := ⟨h0.i + 1, h0.cells.getD h0.i.toNat 0, (h0.mix * 48271 + h0.cells.getD h0.i.toNat 0 % 2147483629 * 69621 + 17) % 2147483629, h0.cnt, h0.cells⟩) rfl (e_var (Mono.up q2 ((e3.ii.trans e4.ii).trans e5.ii))) e5.si c5 (k := 2) rfl rfl rfl (fun J6 G6 e6 c6 s6 => ?_)
        exact hr2 _ _ _ _ (show 0 ≤ h0.i + 1 by omega) c6 (p5.trans e6)
      · exact hr2 _ _ _ _ (show 0 ≤ h0.i + 1 by omega) c5 (p4.trans e5.of0)
    · exact hr2 h0 J1 G1 none hi0 c1 (Ex.of0 e1)
end
end KK

namespace KK
open PySem PySem.Spec PyProof.Rows L2 RZ DL
section
variable {P : Program} {w : World} {K : PySem.W.Frag} {mg : Str → Option Value} {base : Heap}
/-! the hand is made -/
def sp_law_hand (K : PySem.W.Frag) : Sp := fun vs H Q _ => ∃ (a : Addr) (xs : List Int), vs = [.ref a] ∧ SqL K H a (xs.map V.int) ∧ ∀ hp c I' H', Ex0 (fun _ => none) H I' H' → (HM hp c).C I' H' → Q (.ref hp) H'
theorem SqL.ex {m : Addr → Prop} {I H I' H' : Hp} {a : Addr} {xs : List V} (h : SqL K H a xs) (e : Ex0 I H I' H') : SqL K H' a xs := L2.Same.seq (fun b o x => e.kp b o (fun z => z) x) h
theorem e_slQ {σ : L2.St} {I H : Hp} {tl th : TO} {xs : List Int} {lo hi : Option Int} {a : Addr} {i : Nat} (hv : σ[i]? = some (some (.ref a))) (ha : SqL K H a (xs.map V.int)) (hl : DO M0 tl σ I H lo) (hh : DO M0 th σ I H hi) : D M0 (tSl (rSlL K) (tVar i) tl th) σ I H (dL dI) (cut xs lo hi) := fun I1 H1 e c Q k =>
  ⟨.ref a, hv, hl I1 H1 e c _ fun I3 H3 e3 c3 => hh I3 H3 (e.trans e3) c3 _ fun I4 H4 e4 c4 => ⟨a, xs.map V.int, rfl, SqL.ex (m := no) ha ((e.trans e3).trans e4), fun q hq => by
    have z := Ex.new (m := no) (o := .lst (cutV (xs.map V.int) lo hi)) e4.si hq
    exact k _ _ _ ((e3.trans e4).trans z) True.intro ⟨q, _, rfl, upd_same, paired_cut ints_paired lo hi⟩⟩⟩
abbrev s_law_hand : Stmt := topS 36
abbrev N_law_hand : List Str := ["script", "cells", "cell"]
theorem sc_law_hand : FnScope N_law_hand ["script"] (defScope s_law_hand) := ⟨rfl, rfl, rfl, by decide +kernel, rfl, by decide +kernel, by decide +kernel⟩
theorem mk_law_hand {f : Addr} {fd : FuncData} (F : Df K mg "_law_hand" s_law_hand ["script"] f fd) (T : Txt mg) : Cal P w K mg base 1 "_law_hand" (sp_law_hand K) := by
  refine Cal.of F (F.fn.ok sc_law_hand (fun vs H Q E h => ?_) (fun cdv A outer s H vs Q E hr h => ?_))
  · obtain ⟨a, xs, rfl, _⟩ := h
    rfl
  · obtain ⟨a0, xs, rfl, hq, k⟩ := h
    have si : DL.Sub (fun _ => none) H := fun b o e => nomatch e
    refine ⟨_, (pss_cons (ps_setLc (i := 1) (own := [("cell", 2)]) (g := gName 2) rfl sc_law_hand.nd rfl rfl (sw_true rfl rfl rfl (by decide +kernel)) (klist K (pe_slice (kslL K) (pv 0) po_none (po_some pe_int))) (by exact (blkOk_by (N := N_law_hand) (sc := (defScope s_law_hand)) (by decide +kernel))) (fun _ _ _ _ _ => by exact (pg_name (i := 2) sc_law_hand.nd rfl (Or.inl rfl))) (fun _ _ _ _ _ => by exact pts_nil) (fun _ _ _ _ _ => by exact (pe_op op_mod (pe_callB call_abs (by rfl) T.b_abs boot_abs (pa_cons (pe_callTy call_int1 (by rfl) T.b_int boot_int (pa_cons (pv 2) pa_nil)) pa_nil)) (pe_op op_pow pe_int pe_int))))
    (pss_one (ps_ret (pe_lst (pa_cons (pv 1) (pa_cons pe_int (pa_cons pe_int (pa_cons (pe_op op_add pe_int (pe_op op_mul pe_int (pe_callB (klen K) (by rfl) T.b_len PySem.boot_len (pa_cons (pv 1) pa_nil)))) (pa_cons pe_int pa_nil))))))))), ?_⟩
    have hc := cut_len xs none (some 60)
    have hc2 : (cut xs none (some 60)).length ≤ 60 := by
      unfold cut HT.sIx
      rw [List.length_take]
      simp
      omega
    refine s_asg (M := M0) (e_lcN (f := fun x : Int => (if x < 0 then -x else x) % (10 : Int) ^ (36 : Int).toNat) (s_list (e_slQ (σ := start N_law_hand [.ref a0]) (i := 0) rfl hq o_none (o_some e_int))) (by rw [sizeLine_eq]; omega) (fun i hi v J G x q => e_i2c (e_absI (e_intI (e_var q))) (e_i2c e_int e_int ⟨by decide, by decide, by decide⟩) (by decide))) si True.intro (fun v1 I1 H1 e1 c1 q1 => ?_)
    obtain ⟨c, vs, ev, hcI, pc⟩ := q1
    have ec := paired_ints pc
    subst ec
    have d1 : D M0 (tVar 1) ((start N_law_hand [V.ref a0]).set 1 (some v1)) I1 H1 dV v1 := e_var (R := dV) rfl
    have d2 : D M0 (tVar 1) ((start N_law_hand [V.ref a0]).set 1 (some v1)) I1 H1 (dL dI) _ := e_var (R := dL dI) ⟨c, _, ev, hcI, pc⟩
    refine f_lst (M := M0) (R := dV) (l_cons d1 (l_cons (e_V e_int) (l_cons (e_V e_int) (l_cons (e_V (e_i2 e_int (e_i2c e_int (e_lenL d2) (Or.inl (by decide))))) (l_cons (e_V e_int) l_nil))))) (by rw [sizeLine_eq]; simp) I1 H1 (Ex.refl e1.si) True.intro _ (fun p vs I2 H2 e2 c2 hp hI hH pv => ?_)
    have hvs : ∃ m, vs = [v1, .int 0, .int 0, .int m, .int 0] := by
      have : ∀ {ys zs : List V}, Paired (dV I2) ys zs → ys = zs := fun h => by
        induction h with
        | nil => rfl
        | cons a _ ih => rw [show _ = _ from a, ih]
      exact ⟨_, this pv⟩
    obtain ⟨m, hvs⟩ := hvs
    refine k p c I2 H2 (e1.trans e2) ⟨⟨0, 0, m, 0, (cut xs none (some 60)).map fun x : Int => (if x < 0 then -x else x) % (10 : Int) ^ (36 : Int).toNat⟩, Int.le_refl _, ?_, hI, e2.si _ _ (e2.ii _ _ hcI), ?_⟩
    · rw [hH, hvs, ev]; rfl
    · rintro rfl
      rw [e1.si _ _ hcI] at hp
      cases hp
/-! one of some things -/
abbrev sp_law_some : Sp := spH (aCons (dL dV) aNil) (fun x => x.1 ≠ [] ∧ x.1.length < 1000) dV (fun x v => v ∈ x.1)
abbrev s_law_some : Stmt := topS 38
abbrev N_law_some : List Str := ["hand", "things"]
theorem sc_law_some : FnScope N_law_some ["hand", "things"] (defScope s_law_some) := ⟨rfl, rfl, rfl, by decide +kernel, rfl, by decide +kernel, by decide +kernel⟩
theorem mk_law_some {f : Addr} {fd : FuncData} (F : Df K mg "_law_some" s_law_some ["hand", "things"] f fd) (T : Txt mg) (c_law_draw : Cal P w K mg base 1 "_law_draw" sp_law_draw) : Cal P w K mg base 2 "_law_some" sp_law_some := by
  refine Cal.of F (F.fn.ok sc_law_some (fun vs H Q E h => ?_) (fun cdv A outer s H vs Q E hr h => ?_))
  · obtain ⟨hp, c, r, I, x, rfl, si, cc, ⟨v1, _, rfl, r1, rfl⟩, hm, k⟩ := h
    rfl
  · obtain ⟨hp, c, r, I, ⟨xs, ⟨⟩⟩, rfl, si, cc, ⟨v1, _, rfl, r1, rfl⟩, ⟨hne, hlen⟩, k⟩ := h
    dsimp only at *
    refine ⟨_, (pss_one (ps_ret (pe_ix (kixL K) (pv 1) (pe_c c_law_draw hr (by decide) (by rfl) (pa_cons (pv 0) (pa_cons (pe_callB (klen K) (by rfl) T.b_len PySem.boot_len (pa_cons (pv 1) pa_nil)) pa_nil))) (fun _ _ => rfl)))), ?_⟩
    have hpos : 0 < xs.length := List.length_pos_iff.mpr hne
    refine n_ret (M := HM hp c) (n_ixL (P3 := fun v => v ∈ xs) (e_var r1) (n_callH rfl (a_cons (e_lenL (e_var r1)) a_nil) ⟨by dsimp only; omega, by dsimp only; omega⟩) (fun i hi => ?_)) si cc (fun v x J G e c1 r p => k v x J G e c1 r p)
    dsimp only at hi
    have hlt : i.toNat < xs.length := by omega
    refine ⟨xs[i.toNat], ?_, List.getElem_mem hlt⟩
    have q := atI_nat (xs := xs) (j := i.toNat) (List.getElem?_eq_getElem hlt)
    rw [Int.toNat_of_nonneg hi.1] at q
    exact q
end
end KK

namespace KK
open PySem PySem.Spec PyProof.Rows L2 RZ DL
section
variable {P : Program} {w : World} {K : PySem.W.Frag} {mg : Str → Option Value} {base : Heap}
/-! who is out -/
def moreOf (stand : List Int) (kind : Int) : List Int := (enum stand).map fun p => p.2 + (if decide (p.1 = kind) = true then 1 else 0)
def isOut (lots : List (List Int)) (stand : List Int) (kind : Int) : Bool := (lots.map fun lot => ((enum lot).map fun q => decide (q.2 ≤ (moreOf stand kind).getD q.1.toNat 0)).all id).any id
theorem moreOf_len (s : List Int) (k : Int) : (moreOf s k).length = s.length := by unfold moreOf; rw [List.length_map, enum_length]
theorem enum_get {α : Type} {xs : List α} {i : Nat} (hi : i < (enum xs).length) : ∃ h : i < xs.length, (enum xs)[i] = ((i : Int), xs[i]) := by
  have hi1 : i < xs.length := by rw [← enum_length]; exact hi
  refine ⟨hi1, ?_⟩
  have q := enum_get? (xs := xs) (i := i) (List.getElem?_eq_getElem hi1)
  rw [List.getElem?_eq_getElem hi] at q
  exact Option.some.inj q
abbrev sp_law_is_out : Sp := DL.sp (aCons (dT (dT dI)) (aCons (dT dI) (aCons dI aNil))) (fun x => x.1.length < 1000 ∧ x.2.1.length < 1000 ∧ ∀ l ∈ x.1, l.length ≤ x.2.1.length) dB (fun x => isOut x.1 x.2.1 x.2.2.1)
abbrev s_law_is_out : Stmt := topS 47
abbrev N_law_is_out : List Str := ["lots", "stand", "kind", "more", "at", "count", "lot", "many"]
theorem sc_law_is_out : FnScope N_law_is_out ["lots", "stand", "kind"] (defScope s_law_is_out) := ⟨rfl, rfl, rfl, by decide +kernel, rfl, by decide +kernel, by decide +kernel⟩
theorem mk_law_is_out {f : Addr} {fd : FuncData} (F : Df K mg "_law_is_out" s_law_is_out ["lots", "stand", "kind"] f fd) (T : Txt mg) : Cal P w K mg base 1 "_law_is_out" sp_law_is_out := by
  refine Cal.of F (F.fn.ok sc_law_is_out (fun vs H Q E h => ?_) (fun cdv A outer s H vs Q E hr h => ?_))
  · obtain ⟨I, x, si, ⟨v0, _, rfl, r0, v1, _, rfl, r1, v2, _, rfl, r2, rfl⟩, hp, k⟩ := h
    rfl
  · obtain ⟨I, ⟨x0, x1, x2, ⟨⟩⟩, si, ⟨v0, _, rfl, r0, v1, _, rfl, r1, v2, _, rfl, r2, rfl⟩, ⟨h1, h2, h3⟩, k⟩ := h
    dsimp only at *
    refine ⟨_, (pss_cons (ps_set (i := 3) sc_law_is_out.nd rfl (Or.inr rfl) (by exact (pe_lc (own := [("at", 4), ("count", 5)]) (g := gTup K 2 (gCons (gName 4) (gCons (gName 5) (gNil)))) rfl sc_law_is_out.nd (kenum K rfl T.b_enumerate (pa_cons (pv 1) pa_nil)) (by exact (blkOk_by (N := N_law_is_out) (sc := (defScope s_law_is_out)) (by decide +kernel))) (fun _ _ _ _ _ => by exact (kgtup K rfl (pgs_cons (pg_name (i := 4) sc_law_is_out.nd rfl (Or.inl rfl)) (pgs_cons (pg_name (i := 5) sc_law_is_out.nd rfl (Or.inl rfl)) pgs_nil)))) (fun _ _ _ _ _ => by exact pts_nil) (fun _ _ _ _ _ => by exact (pe_op op_add (pv 5) (pe_callTy call_int1 (by rfl) T.b_int boot_int (pa_cons (pe_cmpR op_eq (pv 4) (pv 2) (nomark _)) pa_nil)))))))
    (pss_one (ps_ret (pe_callB (kany K rfl) (by rfl) T.b_any boot_any (pa_cons (by exact (pe_lc (own := [("lot", 6)]) (g := gName 6) rfl sc_law_is_out.nd (ktup K (pv 0)) (by exact (blkOk_by (N := N_law_is_out) (sc := (defScope s_law_is_out)) (by decide +kernel))) (fun _ _ _ _ _ => by exact (pg_name (i := 6) sc_law_is_out.nd rfl (Or.inl rfl))) (fun _ _ _ _ _ => by exact pts_nil) (fun _ _ _ _ _ => by exact (pe_callB (kall K rfl) (by rfl) T.b_all boot_all (pa_cons (by exact (pe_lc (own := [("at", 4), ("many", 7)]) (g := gTup K 2 (gCons (gName 4) (gCons (gName 7) (gNil)))) rfl sc_law_is_out.nd (kenum K rfl T.b_enumerate (pa_cons (pv 6) pa_nil)) (by exact (blkOk_by (N := N_law_is_out) (sc := (relS _ (defScope s_law_is_out))) (by decide +kernel))) (fun _ _ _ _ _ => by exact (kgtup K rfl (pgs_cons (pg_name (i := 4) sc_law_is_out.nd rfl (Or.inl rfl)) (pgs_cons (pg_name (i := 7) sc_law_is_out.nd rfl (Or.inl rfl)) pgs_nil)))) (fun _ _ _ _ _ => by exact pts_nil) (fun _ _ _ _ _ => by exact (pe_cmpR op_ge (pe_ix (kixL K) (pv 3) (pv 4) (fun _ _ => rfl)) (pv 7) (nomark _))))) pa_nil))))) pa_nil))))), ?_⟩
    refine s_asg (M := M0) (e_lcP (f := fun p : Int × Int => p.2 + (if decide (p.1 = x2) = true then 1 else 0)) (s_enumT (e_var r1)) (by rw [enum_length, sizeLine_eq]; omega) (fun i hi v w J G x q1 q2 => e_i2 (e_var q2) (e_intB (e_eqI (e_var q1) (e_var (Mono.up r2 x.ii)))))) si True.intro (fun v3 I1 H1 e1 c1 q3 => ?_)
    refine s_ret (M := M0) (e_anyL (e_lcN (f := fun lot : List Int => ((enum lot).map fun q : Int × Int => decide (q.2 ≤ (moreOf x1 x2).getD q.1.toNat 0)).all id) (s_tup (e_var (Mono.up r0 e1.ii))) (by rw [sizeLine_eq]; omega) (fun i hi v J G x q => e_allL (e_lcP (f := fun q : Int × Int => decide (q.2 ≤ (moreOf x1 x2).getD q.1.toNat 0)) (s_enumT (e_var q)) ?_ (fun n hn v' w' J' G' x' q1 q2 => e_b2 (e_ixL (e_var (Mono.up (Mono.up q3 x.ii) x'.ii)) (e_var q1) (atI_getD 0 ?_ ?_)) (e_var q2)))))) e1.si True.intro (fun v J G e c r => k v J G (e1.trans e) r)
    · have := h3 _ (List.getElem_mem hi)
      rw [enum_length, sizeLine_eq]; omega
    · obtain ⟨hn1, he⟩ := enum_get hn
      rw [he]; exact Int.natCast_nonneg n
    · obtain ⟨hn1, he⟩ := enum_get hn
      rw [he]
      have := h3 _ (List.getElem_mem hi)
      show ((n : Nat) : Int) < (((enum x1).map _).length : Nat)
      rw [List.length_map, enum_length]
      omega
/-! counts that come to a sum -/
def grow (whole : Int) (rows : List (List Int)) : List (List Int) := (rows.map fun r => (rng ((if whole - r.sum < 4 then whole - r.sum else 4) + 1)).map fun m => r ++ [m]).flatten
def growN (whole : Int) : Nat → List (List Int)
  | 0 => [[]]
  | n + 1 => grow whole (growN whole n)
def summing (many whole : Int) : List (List Int) := (growN whole many.toNat).filter fun r => decide (r.sum = whole)
theorem rng_len5 {whole : Int} {r : List Int} : (rng ((if whole - r.sum < 4 then whole - r.sum else 4) + 1)).length ≤ 5 := by
  rw [rng_length]; split <;> omega
theorem mem_rng {n k : Int} (h : k ∈ rng n) : 0 ≤ k ∧ k < n := by
  unfold rng at h
  obtain ⟨i, hi, rfl⟩ := List.mem_map.mp h
  have := List.mem_range.mp hi
  omega
theorem grow_len {whole : Int} : ∀ rows : List (List Int), (grow whole rows).length ≤ 5 * rows.length
  | [] => by simp [grow]
  | r :: rows => by
    have ih := grow_len (whole := whole) rows
    have h5 := rng_len5 (whole := whole) (r := r)
    unfold grow at ih ⊢
    rw [List.map_cons, List.flatten_cons, List.length_append, List.length_map, List.length_cons]
    omega
theorem growN_mem {whole : Int} : ∀ {n : Nat} {r : List Int}, r ∈ growN whole n → r.length = n ∧ ∀ c ∈ r, 0 ≤ c ∧ c ≤ 4
  | 0, r, h => by
    have : r = [] := by simpa [growN] using h
    subst this; exact ⟨rfl, fun c hc => by cases hc⟩
  | n + 1, r, h => by
    unfold growN grow at h
    obtain ⟨l, hl, hr⟩ := List.mem_flatten.mp h
    obtain ⟨q, hq, rfl⟩ := List.mem_map.mp hl
    obtain ⟨m, hm, rfl⟩ := List.mem_map.mp hr
    obtain ⟨i1, i2⟩ := growN_mem hq
    refine ⟨by simp [i1], fun c hc => ?_⟩
    rcases List.mem_append.mp hc with z | z
    · exact i2 c z
    · have e : c = m := by simpa using z
      have := mem_rng hm
      rw [e]
      split at this <;> omega
theorem sum_bound : ∀ {r : List Int}, (∀ c ∈ r, 0 ≤ c ∧ c ≤ 4) → 0 ≤ r.sum ∧ r.sum ≤ 4 * r.length
  | [], _ => ⟨Int.le_refl _, Int.le_refl _⟩
  | c :: r, h => by
    have ih := sum_bound fun d hd => h d (List.mem_cons_of_mem _ hd)
    have := h c (List.mem_cons_self ..)
    rw [List.sum_cons, List.length_cons]
    omega
theorem growN_len {whole : Int} : ∀ n : Nat, (growN whole n).length ≤ 5 ^ n
  | 0 => by simp [growN]
  | n + 1 => by
    have h1 := grow_len (whole := whole) (growN whole n)
    have h2 := growN_len (whole := whole) n
    have : growN whole (n + 1) = grow whole (growN whole n) := rfl
    rw [this, Nat.pow_succ]
    omega
abbrev sp_law_summing : Sp := DL.sp (aCons dI (aCons dI aNil)) (fun x => 1 ≤ x.1 ∧ x.1 ≤ 3 ∧ 0 ≤ x.2.1 ∧ x.2.1 ≤ 100) (dT (dT dI)) (fun x => summing x.1 x.2.1)
abbrev s_law_summing : Stmt := topS 44
abbrev N_law_summing : List Str := ["many", "whole", "found", "kind", "longer_v", "row", "more"]
theorem sc_law_summing : FnScope N_law_summing ["many", "whole"] (defScope s_law_summing) := ⟨rfl, rfl, rfl, by decide +kernel, rfl, by decide +kernel, by decide +kernel⟩
theorem mk_law_summing {f : Addr} {fd : FuncData} (F : Df K mg "_law_summing" s_law_summing ["many", "whole"] f fd) (T : Txt mg) : Cal P w K mg base 1 "_law_summing" sp_law_summing := by
  refine Cal.of F (F.fn.ok sc_law_summing (fun vs H Q E h => ?_) (fun cdv A outer s H vs Q E hr h => ?_))
  · obtain ⟨I, x, si, ⟨v0, _, rfl, r0, v1, _, rfl, r1, rfl⟩, hp, k⟩ := h
    rfl
  · obtain ⟨I, ⟨x0, x1, ⟨⟩⟩, si, ⟨v0, _, rfl, r0, v1, _, rfl, r1, rfl⟩, ⟨h1, h2, h3, h4⟩, k⟩ := h
    dsimp only at *
    refine ⟨_, (pss_cons (ps_set (i := 2) sc_law_summing.nd rfl (Or.inl rfl) (pe_lst (pa_cons (pe_tup pa_nil) pa_nil)))
    (pss_cons (ps_for PassesOwn.never rfl (pi_range1 rfl T.b_range (pa_cons (pv 0) pa_nil)) (pg_name (i := 3) sc_law_summing.nd rfl (Or.inl rfl))
    (pss_cons (ps_set (i := 4) sc_law_summing.nd rfl (Or.inl rfl) (pe_lst pa_nil))
    (pss_cons (ps_for PassesOwn.never rfl (klist K (pv 2)) (pg_name (i := 5) sc_law_summing.nd rfl (Or.inr rfl))
    (pss_one (ps_expr (pe_bm PySem.F.plainAttrs_list PySem.F.slot_list_extend PySem.F.type_list_extend mt_extend (pv 4) (pa_cons (by exact (pe_lc (own := [("more", 6)]) (g := gName 6) rfl sc_law_summing.nd (pi_range1 rfl T.b_range (pa_cons (pe_op op_add (pe_callB (call_min2 rfl) (by rfl) T.b_min boot_min (pa_cons pe_int (pa_cons (pe_op op_sub (pv 1) (pe_callB (ksumA K rfl) (by rfl) T.b_sum boot_sum (pa_cons (pv 5) pa_nil))) pa_nil))) pe_int) pa_nil)) (by exact (blkOk_by (N := N_law_summing) (sc := (defScope s_law_summing)) (by decide +kernel))) (fun _ _ _ _ _ => by exact (pg_name (i := 6) sc_law_summing.nd rfl (Or.inl rfl))) (fun _ _ _ _ _ => by exact pts_nil) (fun _ _ _ _ _ => by exact (pe_op (kcatT K) (pv 5) (pe_tup (pa_cons (pv 6) pa_nil)))))) pa_nil)))))
    (pss_one (ps_set (i := 2) sc_law_summing.nd rfl (Or.inl rfl) (pv 4))))))
    (pss_one (ps_ret (ktuple K (by rfl) T.b_tuple (by exact (pe_lc (own := [("row", 5)]) (g := gName 5) rfl sc_law_summing.nd (klist K (pv 2)) (by exact (blkOk_by (N := N_law_summing) (sc := (defScope s_law_summing)) (by decide +kernel))) (fun _ _ _ _ _ => by exact (pg_name (i := 5) sc_law_summing.nd rfl (Or.inl rfl))) (fun _ _ _ _ _ => by exact (pts_one (pt_cmpR op_eq (pe_callB (ksumA K rfl) (by rfl) T.b_sum boot_sum (pa_cons (pv 5) pa_nil)) (pv 1) (nomark _)))) (fun _ _ _ _ _ => by exact (pv 5))))))))), ?_⟩
    have big : ∀ n, n ≤ 3 → (growN x1 n).length ≤ 125 := fun n hn => by
      have q := growN_len (whole := x1) n
      have q2 : 5 ^ n ≤ 5 ^ 3 := Nat.pow_le_pow_right (by decide) hn
      omega
    refine s_asg (M := M0) (R := dL (dT dI)) (e_lst (l_cons (e_tup l_nil) l_nil)) si True.intro (fun v2 I1 H1 e1 c1 q2 => ?_)
    refine s_for (M := M0) (s_rng (e_var (Mono.up r0 e1.ii)) (by omega) (by omega)) b_name e1.si True.intro (fun i σ' J G => Ex0 I H J G ∧ ∃ vf x3 x4 x5 x6, σ' = [some v0, some v1, some vf, x3, x4, x5, x6] ∧ dL (dT dI) J vf (growN x1 i)) ?_ ?_ ?_ ?_
    · rintro i σ' J G J2 G2 e2 ⟨q0, vf, x3, x4, x5, x6, q1, q3⟩
      exact ⟨q0.trans e2, vf, x3, x4, x5, x6, q1, Mono.up q3 e2.ii⟩
    · intro J G e2 c2
      exact ⟨e1.trans e2, v2, none, none, none, none, rfl, Mono.up q2 e2.ii⟩
    · rintro I0 s0 i hi σ1 σ2 J G sJ sG _ ⟨q0, vf, x3, x4, x5, x6, rfl, qf⟩ ⟨v, rfl, rv⟩
      rw [rng_length] at hi
      refine s_asgF (M := M0) (R := dT dI) (f_lst l_nil) sG True.intro (fun a vs J1 G1 e2 c2 ha hJ hG pv => ?_)
      cases pv
      have p1 := q0.trans e2
      have hf := big i (by omega)
      refine s_for (M := M0) (s_list (e_var (Mono.up qf e2.ii))) b_name e2.si True.intro (fun j σ' L N => Ex0 I H L N ∧ Ex0 J G L N ∧ ∃ us y5 y6, σ' = [some v0, some v1, some vf, some v, some (.ref a), y5, y6] ∧ L a = none ∧ N a = some (.lst us) ∧ Paired (dT dI L) us (grow x1 ((growN x1 i).take j))) ?_ ?_ ?_ ?_
      · rintro j σ' L N L2 N2 e3 ⟨u0, u1, us, y5, y6, g1, g2, g3, g4⟩
        exact ⟨u0.trans e3, u1.trans e3, us, y5, y6, g1, e3.out g2 (by rw [g3]; simp), e3.kp _ _ (fun z => z) g3, paired_up g4 e3.ii⟩
      · intro L N e3 c3
        exact ⟨p1.trans e3, e2.trans e3, [], x5, x6, rfl, e3.out hJ (by rw [hG]; simp), e3.kp _ _ (fun z => z) hG, .nil⟩
      · rintro I9 s9 j hj σ3 σ4 L N sL sN _ ⟨u0, u1, us, y5, y6, rfl, g2, g3, g4⟩ ⟨v', rfl, rv'⟩
        have hmem := growN_mem (List.getElem_mem hj)
        have hsum := sum_bound hmem.2
        have hr5 := rng_len5 (whole := x1) (r := (growN x1 i)[j])
        have hlt : us.length ≤ 5 * ((growN x1 i).take j).length := by rw [Paired.length g4]; exact grow_len _
        rw [List.length_take] at hlt
        refine s_extend (M := M0) (R := dT dI) rfl g3 g2 (fun z => z) (e_lcN (f := fun m : Int => (growN x1 i)[j] ++ [m]) (s_rng (e_i2 (e_min2 e_int (e_i2 (e_var (Mono.up r1 u0.ii)) (e_sumAT (e_var rv')))) e_int) ?_ ?_) ?_ (fun n hn v J9 G9 x q => e_catT (e_var (Mono.up rv' x.ii)) (e_tup (l_cons (e_var q) l_nil)) ?_)) sN True.intro ?_ (fun ws L3 N3 e4 c4 g5 g6 pw => ?_)
        · split <;> omega
        · split <;> omega
        · rw [sizeLine_eq]; exact Nat.lt_of_le_of_lt hr5 (by decide)
        · rw [hmem.1, sizeLine_eq]; simp only [List.length_singleton]; omega
        · rw [List.length_map, sizeLine_eq]
          have : ∀ z, z ≤ 5 → us.length + z ≤ 16777216 := fun z hz => by omega
          exact this _ hr5
        · have ex := (u0.trans e4).put (o := .lst (us ++ ws)) (.inr (by
            cases h : H a with
            | none => rfl
            | some o => exact absurd ha (q0.dm a (by rw [h]; simp)))) g6
          have ex2 := (u1.trans e4).put (o := .lst (us ++ ws)) (.inr ha) g6
          refine ⟨L3, sL.trans e4.ii, ex.si, True.intro, ex, ex2, us ++ ws, _, _, rfl, g6, upd_same, ?_⟩
          have e : grow x1 ((growN x1 i).take (j + 1)) = grow x1 ((growN x1 i).take j) ++ ((rng ((if x1 - (growN x1 i)[j].sum < 4 then x1 - (growN x1 i)[j].sum else 4) + 1)).map fun m => (growN x1 i)[j] ++ [m]) := by
            unfold grow
            rw [take_snoc hj, List.map_append, List.flatten_append]
            simp
          rw [e]
          exact paired_app (paired_up g4 e4.ii) pw
      · rintro σ3 L N sL sN _ ⟨u0, u1, us, y5, y6, rfl, g2, g3, g4⟩
        rw [List.take_length] at g4
        have haH : H a = none := by
          cases h : H a with
          | none => rfl
          | some o => exact absurd ha (q0.dm a (by rw [h]; simp))
        have z := u0.seal haH g3 g2
        have z2 := u1.seal ha g3 g2
        refine s_asg (M := M0) (R := dL (dT dI)) (x := growN x1 (i + 1)) (e_var ⟨a, us, rfl, upd_same, paired_up g4 (Sub.in_ g2)⟩) z.si True.intro (fun v9 L3 N3 e4 c4 q9 => ?_)
        exact ⟨L3, sJ.trans (z2.trans e4).ii, e4.si, True.intro, z.trans e4, v9, _, _, _, _, rfl, q9⟩
    · rintro σ1 J G sJ sG _ ⟨q0, vf, x3, x4, x5, x6, rfl, qf⟩
      rw [rng_length] at qf
      have hf := big x0.toNat (by omega)
      exact s_ret (M := M0) (e_tupleL (e_lcNF (p := fun r : List Int => decide (r.sum = x1)) (f := fun r : List Int => r) (s_list (e_var qf)) (by rw [sizeLine_eq]; omega) (fun i hi v J9 G9 x q => c_test (e_eqI (e_sumAT (e_var q)) (e_var (Mono.up r1 (q0.ii.trans x.ii))))) (fun i hi v J9 G9 x q _ => e_var q))) sG True.intro (fun v J9 G9 e c r => k v J9 G9 (q0.trans e) (by rw [List.map_id'' (fun _ => rfl)] at r; exact r))
end
end KK

namespace KK
open PySem PySem.Spec PyProof.Rows L2 RZ DL
section
variable {P : Program} {w : World} {K : PySem.W.Frag} {mg : Str → Option Value} {base : Heap}
def capL (caps c : List Int) : List Int := (c.zip caps).map fun q => if q.2 < q.1 then q.2 else q.1
def stepL (lots : List (List Int)) (caps more : List Int) (k : Int) : List Int := more.set k.toNat (more.getD k.toNat 0 + (if (!isOut lots (capL caps more) k) = true then 1 else 0))
def roundL (lots : List (List Int)) (caps row more : List Int) : List Int := row.foldl (stepL lots caps) more
def addM (n : Int) (c more : List Int) : List Int := (c.zip more).map fun q => q.1 + n * (q.2 - q.1)
def afterL (lots : List (List Int)) (caps row : List Int) : Nat → List Int → List Int
  | 0, c => c
  | n + 1, c => if capL caps (roundL lots caps row c) = capL caps c then addM (n + 1 : Nat) c (roundL lots caps row c) else afterL lots caps row n (roundL lots caps row c)
theorem stepL_len (lots : List (List Int)) (caps more : List Int) (k : Int) : (stepL lots caps more k).length = more.length := by unfold stepL; rw [List.length_set]
theorem roundL_len (lots : List (List Int)) (caps : List Int) : ∀ (row more : List Int), (roundL lots caps row more).length = more.length
  | [], more => rfl
  | k :: row, more => by
    show (roundL lots caps row (stepL lots caps more k)).length = _
    rw [roundL_len lots caps row, stepL_len]
theorem getD_set (xs : List Int) (i j : Nat) (x : Int) : (xs.set i x).getD j 0 = if i = j ∧ i < xs.length then x else xs.getD j 0 := by
  rw [List.getD_eq_getElem?_getD, List.getElem?_set, List.getD_eq_getElem?_getD]
  by_cases h : i = j
  · subst h
    by_cases h2 : i < xs.length
    · rw [if_pos rfl, if_pos h2, if_pos ⟨rfl, h2⟩]; rfl
    · rw [if_pos rfl, if_neg h2, if_neg (fun z => h2 z.2), List.getElem?_eq_none (by omega)]
  · rw [if_neg h, if_neg (fun z => h z.1)]
theorem stepL_get (lots : List (List Int)) (caps more : List Int) (k : Int) (j : Nat) : more.getD j 0 ≤ (stepL lots caps more k).getD j 0 ∧ (stepL lots caps more k).getD j 0 ≤ more.getD j 0 + 1 := by
  unfold stepL
  rw [getD_set]
  split
  · rename_i h
    rw [← h.1]
    split <;> omega
  · omega
theorem roundL_get (lots : List (List Int)) (caps : List Int) (j : Nat) : ∀ (row more : List Int), more.getD j 0 ≤ (roundL lots caps row more).getD j 0 ∧ (roundL lots caps row more).getD j 0 ≤ more.getD j 0 + row.length
  | [], more => ⟨Int.le_refl _, by show more.getD j 0 ≤ more.getD j 0 + ((0 : Nat) : Int); omega⟩
  | k :: row, more => by
    have h1 := roundL_get lots caps j row (stepL lots caps more k)
    have h2 := stepL_get lots caps more k j
    show more.getD j 0 ≤ (roundL lots caps row (stepL lots caps more k)).getD j 0 ∧ (roundL lots caps row (stepL lots caps more k)).getD j 0 ≤ more.getD j 0 + ((row.length + 1 : Nat) : Int)
    omega
theorem getElem_getD {xs : List Int} {i : Nat} (h : i < xs.length) : xs[i] = xs.getD i 0 := by rw [List.getD_eq_getElem?_getD, List.getElem?_eq_getElem h]; rfl
theorem zip_get {α β : Type} {xs : List α} {ys : List β} {i : Nat} (h : i < (xs.zip ys).length) : ∃ (h1 : i < xs.length) (h2 : i < ys.length), (xs.zip ys)[i] = (xs[i], ys[i]) := by
  rw [List.length_zip] at h
  exact ⟨by omega, by omega, List.getElem_zip⟩
theorem capsOf_len (p : Kd) : (capsOf p).length = p.1.toNat := by unfold capsOf; rw [List.length_map, rng_length]
end
end KK

namespace KK
open PySem PySem.Spec PyProof.Rows L2 RZ DL
section
variable {P : Program} {w : World} {K : PySem.W.Frag} {mg : Str → Option Value} {base : Heap}
theorem dL_V {I : Hp} {v : V} {xs : List Int} (h : dL dI I v xs) : dL dV I v (xs.map V.int) := by
  obtain ⟨a, vs, e, h, p⟩ := h
  have := paired_ints p
  subst this
  refine ⟨a, _, e, h, ?_⟩
  have : ∀ l : List V, Paired (dV I) l l := fun l => by
    induction l with
    | nil => exact .nil
    | cons x l ih => exact .cons rfl ih
  exact this _
section
variable {σ : L2.St} {I H : Hp} {hp c : Addr}
/-- one of some ints -/
theorem n_someI {te : TE} {xs : List Int} {j : Nat} {E : XK} (hj : σ[j]? = some (some (.ref hp))) (hl : D (HM hp c) te σ I H (dL dI) xs) (hne : xs ≠ []) (hs : xs.length < 1000) : N (HM hp c) (tCall sp_law_some [] E (tCons (tVar j) (tCons te tNil))) σ I H dI (fun i => i ∈ xs) :=
  (n_callH hj (a_cons (D.mono hl (fun I v h => dL_V h)) a_nil) ⟨fun z => hne (List.map_eq_nil_iff.mp z), by rw [List.length_map]; exact hs⟩).mono fun I v x r p => by
    obtain ⟨i, hi, rfl⟩ := List.mem_map.mp p
    exact ⟨i, r, hi⟩
theorem n_draw {te : TE} {n : Int} {j : Nat} {E : XK} (hj : σ[j]? = some (some (.ref hp))) (hn : D (HM hp c) te σ I H dI n) (h0 : 0 < n) (h1 : n < 2 ^ 63) : N (HM hp c) (tCall sp_law_draw [] E (tCons (tVar j) (tCons te tNil))) σ I H dI (fun d => 0 ≤ d ∧ d < n) :=
  n_callH hj (a_cons hn a_nil) ⟨h0, h1⟩
end
theorem atI_cut0 {xs : List Int} {n : Int} (h0 : 0 ≤ n) (h1 : n ≤ xs.length) : (cut xs none (some n)).length = n.toNat := by
  rw [cut_to h0 h1, List.length_take]; omega
/-! rows -/
abbrev sp_law_row : Sp := spH (aCons dI (aCons dI aNil)) (fun x => 1 ≤ x.1 ∧ x.1 ≤ 3 ∧ 0 ≤ x.2.1 ∧ x.2.1 ≤ 200) (dT dI) (fun x row => (row.length : Int) = x.2.1 ∧ ∀ k ∈ row, 0 ≤ k ∧ k < x.1)
abbrev s_law_row : Stmt := topS 45
abbrev N_law_row : List Str := ["hand", "many", "long", "found", "kind"]
theorem sc_law_row : FnScope N_law_row ["hand", "many", "long"] (defScope s_law_row) := ⟨rfl, rfl, rfl, by decide +kernel, rfl, by decide +kernel, by decide +kernel⟩
theorem mk_law_row {f : Addr} {fd : FuncData} (F : Df K mg "_law_row" s_law_row ["hand", "many", "long"] f fd) (T : Txt mg) (c_law_draw : Cal P w K mg base 1 "_law_draw" sp_law_draw) (c_law_some : Cal P w K mg base 2 "_law_some" sp_law_some) : Cal P w K mg base 3 "_law_row" sp_law_row := by
  refine Cal.of F (F.fn.ok sc_law_row (fun vs H Q E h => ?_) (fun cdv A outer s H vs Q E hr h => ?_))
  · obtain ⟨hp, c, r, I, x, rfl, si, cc, ⟨v1, _, rfl, r1, v2, _, rfl, r2, rfl⟩, hm, k⟩ := h
    rfl
  · obtain ⟨hp, c, r, I, ⟨many, long, ⟨⟩⟩, rfl, si, cc, ⟨v1, _, rfl, r1, v2, _, rfl, r2, rfl⟩, ⟨h1, h2, h3, h4⟩, k⟩ := h
    dsimp only at *
    refine ⟨_, (pss_cons (ps_set (i := 3) sc_law_row.nd rfl (Or.inl rfl) (pe_lst pa_nil))
    (pss_cons (ps_while PassesOwn.never (pt_cmpR op_lt (pe_callB (klen K) (by rfl) T.b_len PySem.boot_len (pa_cons (pv 3) pa_nil)) (pv 2) (nomark _))
    (pss_cons (ps_set (i := 4) sc_law_row.nd rfl (Or.inl rfl) (pe_c c_law_draw hr (by decide) (by rfl) (pa_cons (pv 0) (pa_cons (pv 1) pa_nil))))
    (pss_one (ps_set (i := 3) sc_law_row.nd rfl (Or.inl rfl) (pe_op op_cat (pv 3) (pe_op op_rep (pe_lst (pa_cons (pv 4) pa_nil)) (pe_op op_add pe_int (pe_c c_law_draw hr (by decide) (by rfl) (pa_cons (pv 0) (pa_cons (pe_c c_law_some hr (by decide) (by rfl) (pa_cons (pv 0) (pa_cons (pe_lst (pa_cons pe_int (pa_cons pe_int (pa_cons pe_int pa_nil)))) pa_nil))) pa_nil))))))))))
    (pss_one (ps_ret (ktuple K (by rfl) T.b_tuple (pe_slice (kslL K) (pv 3) po_none (po_some (pv 2)))))))), ?_⟩
    refine s_asg (M := HM hp c) (R := dL dI) (e_lst l_nil) si cc (fun v3 I1 H1 e1 c1 q3 => ?_)
    refine s_while (M := HM hp c) e1.si c1 (fun n σ' J G => Ex (HM hp c).m I H J G ∧ ∃ vf x4 fs, σ' = [some (.ref hp), some v1, some v2, some vf, x4] ∧ dL dI J vf fs ∧ (∀ k ∈ fs, 0 ≤ k ∧ k < many) ∧ fs.length + n = 205 ∧ fs.length ≤ 205) (n0 := 205) ?_ ?_
    · exact ⟨e1, v3, none, [], rfl, q3, (fun k hk => by cases hk), rfl, Nat.zero_le _⟩
    · rintro n σ1 J G sJ sG cJ ⟨q0, vf, x4, fs, rfl, qf, hall, hn, hle⟩
      refine ⟨_, c_test (e_b2 (e_lenL (e_var qf)) (e_var (Mono.up r2 q0.ii))), fun hb J2 G2 e2 c2 => ?_, fun hb J2 G2 e2 c2 => ?_⟩
      · have hlt : (fs.length : Int) < long := of_decide_eq_true hb
        have p2 := q0.trans e2
        refine n_asg (M := HM hp c) (n_draw rfl (e_var (Mono.up r1 p2.ii)) (by omega) (by omega)) e2.si c2 (fun v4 kind J3 G3 e3 c3 q4 hk => ?_)
        have p3 := p2.trans e3
        refine n_asg (M := HM hp c) (R := dL dI) (P := fun ys => ∃ z : List Int, ys = fs ++ z ∧ (∀ k ∈ z, 0 ≤ k ∧ k < many) ∧ 1 ≤ z.length ∧ z.length ≤ 5) (n_op (e_var (Mono.up qf (e2.ii.trans e3.ii))).n
          (n_op (R := dL dI) (S := dI) (T := dL dI) (P3 := fun z => (∀ k ∈ z, 0 ≤ k ∧ k < many) ∧ 1 ≤ z.length ∧ z.length ≤ 5) (e_lst (l_cons (e_var q4) l_nil)).n
            (n_i2 (P3 := fun i => 1 ≤ i ∧ i ≤ 5) e_int.n (n_callHN (PA := fun x => 1 ≤ x.1 ∧ x.1 ≤ 5) rfl ((na_cons (n_someI rfl (e_lst (l_cons e_int (l_cons e_int (l_cons e_int l_nil)))) (by simp) (by simp)) (fun _ _ => na_nil)).imp ?_) (fun x hx => ⟨by omega, by omega⟩)) ?_)
            (fun a b hA hB v w J G e ra rb => ?_))
          (fun a b hA hB v w J G e ra rb => ?_)) e3.si c3 (fun v5 ys J4 G4 e4 c4 q5 hys => ?_)
        · rintro x ⟨h, _⟩
          simp at h; omega
        · rintro a b rfl ⟨x, hx, hb⟩; omega
        · subst hA
          refine (e_repL (e_c ra) (e_c rb) (by omega) (by omega) (by rw [sizeLine_eq]; simp only [List.length_singleton]; omega)).n.imp fun z hz => ?_
          have e : z = List.replicate b.toNat kind := by
            rw [hz]
            generalize b.toNat = m
            induction m with
            | zero => rfl
            | succ m ih => rw [List.replicate_succ, List.flatten_cons, ih, List.replicate_succ]; rfl
          subst e
          refine ⟨fun k' hk' => ?_, by rw [List.length_replicate]; omega, by rw [List.length_replicate]; omega⟩
          rw [(List.mem_replicate.mp hk').2]; exact hk
        · subst hA
          refine (e_catL (e_c ra) (e_c rb) (by rw [sizeLine_eq]; omega)).n.imp fun ys hy => ⟨b, hy, hB⟩
        · obtain ⟨z, rfl, hz1, hz2, hz3⟩ := hys
          refine ⟨n - z.length, J4, by omega, sJ.trans ((e2.trans e3).trans e4).ii, e4.si, c4, p3.trans e4, v5, _, fs ++ z, rfl, q5, fun k' hk' => ?_, by rw [List.length_append]; omega, by rw [List.length_append]; omega⟩
          rcases List.mem_append.mp hk' with h | h
          · exact hall k' h
          · exact hz1 k' h
      · have hge : ¬ (fs.length : Int) < long := of_decide_eq_false hb
        have p2 := q0.trans e2
        refine s_ret (M := HM hp c) (e_tupleL (e_slL (e_var (Mono.up qf e2.ii)) o_none (o_some (e_var (Mono.up r2 p2.ii))))) e2.si c2 (fun v J3 G3 e c3 r => k v _ J3 G3 (p2.trans e) c3 r ⟨?_, fun k' hk' => hall k' (cut_mem hk')⟩)
        rw [atI_cut0 h3 (by omega)]; omega
/-! the right sets of lots -/
theorem isAtMost_self : ∀ a : List Int, isAtMost a a = true := fun a => by
  unfold isAtMost
  rw [List.all_map]
  refine List.all_eq_true.mpr fun p hp => ?_
  have : p.1 = p.2 := by
    obtain ⟨i, hi, rfl⟩ := List.getElem_of_mem hp
    obtain ⟨h1, h2, e⟩ := zip_get hi
    rw [e]
  show decide (p.1 ≤ p.2) = true
  rw [this]; exact decide_eq_true (Int.le_refl _)
/-- lots none of which is at most another -/
structure AOk (m : Int) (l : List (List Int)) : Prop where
  ok : ∀ x ∈ l, LotOk m x
  anti : l.Pairwise fun a b => isAtMost a b = false ∧ isAtMost b a = false
theorem AOk.ne {m : Int} {l : List (List Int)} (h : AOk m l) : l.Pairwise (· ≠ ·) := h.anti.imp fun {a b} hab e => by
  subst e
  rw [isAtMost_self] at hab
  cases hab.1
theorem AOk.perm {m : Int} {l l' : List (List Int)} (h : AOk m l) (p : l'.Perm l) : AOk m l' :=
  ⟨fun x hx => h.ok x (p.mem_iff.mp hx), (List.Perm.pairwise_iff (fun {x y} h => ⟨h.2, h.1⟩) p).mpr h.anti⟩
theorem AOk.sub {m : Int} {l l' : List (List Int)} (h : AOk m l) (p : l'.Sublist l) : AOk m l' := ⟨fun x hx => h.ok x (p.subset hx), h.anti.sublist p⟩
theorem AOk.lots {m : Int} {l : List (List Int)} (h : AOk m l) (lo : 1 ≤ m) (hi : m ≤ 3) (few : l.length ≤ 12) (asc : l.Pairwise fun a b => HT.lexLt a b = true ∨ a = b) : LotsOk m l where
  lo := lo
  hi := hi
  few := few
  ok := h.ok
  asc := fun i hi => by
    have q := List.pairwise_iff_getElem.mp (asc.and h.ne) i (i + 1) (by omega) hi (by omega)
    rcases q.1 with z | z
    · exact z
    · exact absurd z q.2
  anti := fun i j hij hj => by
    have q := List.pairwise_iff_getElem.mp h.anti i j (by omega) hj hij
    exact ⟨q.2, q.1⟩
theorem LotOk.bd {m : Int} {x : List Int} (h : LotOk m x) : x.length = m.toNat ∧ TS.Bd 64 x := ⟨by have := h.len; omega, fun c hc => by have := h.cap c hc; omega⟩
end
end KK

namespace KK
open PySem PySem.Spec PyProof.Rows L2 RZ DL
section
variable {P : Program} {w : World} {K : PySem.W.Frag} {mg : Str → Option Value} {base : Heap}
theorem lex_self : ∀ a : List Int, HT.lexLt a a = false
  | [] => rfl
  | x :: a => by rw [HT.lexLt_cons, if_pos rfl]; exact lex_self a
def isLeast (fs : List (List Int)) (lot : List Int) : Bool := !(fs.map fun one => !decide (one = lot) && isAtMost one lot).any id
theorem least_anti {fs : List (List Int)} {a b : List Int} (ha : a ∈ fs) (hb : isLeast fs b = true) (hne : a ≠ b) : isAtMost a b = false := by
  unfold isLeast at hb
  rw [Bool.not_eq_true', List.any_map, List.any_eq_false] at hb
  have q := hb a ha
  cases h : isAtMost a b with
  | false => rfl
  | true =>
    exfalso
    apply q
    show (!decide (a = b) && isAtMost a b) = true
    rw [decide_eq_false hne, h]; rfl
theorem HM.ne {hp c a : Addr} {I H I' H' : Hp} (cc : (HM hp c).C I H) (e : Ex (HM hp c).m I H I' H') (ha : H a = none) : ¬ (HM hp c).s a := (HM hp c).fresh cc ha
abbrev sp_law_kinds : Sp := spH (aCons dI aNil) (fun x => 1 ≤ x.1 ∧ x.1 ≤ 3) (dT (dT dI)) (fun x ls => LotsOk x.1 ls ∧ ls.length ≤ 5)
abbrev s_law_kinds : Stmt := topS 39
abbrev N_law_kinds : List Str := ["hand", "many", "found", "turn", "lot", "some", "kind", "one", "a", "b"]
theorem sc_law_kinds : FnScope N_law_kinds ["hand", "many"] (defScope s_law_kinds) := ⟨rfl, rfl, rfl, by decide +kernel, rfl, by decide +kernel, by decide +kernel⟩
theorem mk_law_kinds {f : Addr} {fd : FuncData} (F : Df K mg "_law_kinds" s_law_kinds ["hand", "many"] f fd) (T : Txt mg) (c_law_draw : Cal P w K mg base 1 "_law_draw" sp_law_draw) (c_law_some : Cal P w K mg base 2 "_law_some" sp_law_some) : Cal P w K mg base 3 "_law_kinds" sp_law_kinds := by
  refine Cal.of F (F.fn.ok sc_law_kinds (fun vs H Q E h => ?_) (fun cdv A outer s H vs Q E hr h => ?_))
  · obtain ⟨hp, c, r, I, x, rfl, si, cc, ⟨v1, _, rfl, r1, rfl⟩, hm, k⟩ := h
    rfl
  · obtain ⟨hp, c, r, I, ⟨many, ⟨⟩⟩, rfl, si, cc, ⟨v1, _, rfl, r1, rfl⟩, ⟨h1, h2⟩, k⟩ := h
    dsimp only at *
    refine ⟨_, (pss_cons (ps_set (i := 2) sc_law_kinds.nd rfl (Or.inr rfl) (pe_lst pa_nil))
    (pss_cons (ps_for PassesOwn.never rfl (pi_range1 rfl T.b_range (pa_cons (pe_op op_add pe_int (pe_c c_law_draw hr (by decide) (by rfl) (pa_cons (pv 0) (pa_cons pe_int pa_nil)))) pa_nil)) (pg_name (i := 3) sc_law_kinds.nd rfl (Or.inl rfl))
    (pss_cons (ps_set (i := 4) sc_law_kinds.nd rfl (Or.inl rfl) (ktuple K (by rfl) T.b_tuple (by exact (pe_lc (own := [("kind", 6)]) (g := gName 6) rfl sc_law_kinds.nd (pi_range1 rfl T.b_range (pa_cons (pv 1) pa_nil)) (by exact (blkOk_by (N := N_law_kinds) (sc := (defScope s_law_kinds)) (by decide +kernel))) (fun _ _ _ _ _ => by exact (pg_name (i := 6) sc_law_kinds.nd rfl (Or.inl rfl))) (fun _ _ _ _ _ => by exact pts_nil) (fun _ _ _ _ _ => by exact (pe_c c_law_some hr (by decide) (by rfl) (pa_cons (pv 0) (pa_cons (pe_lst (pa_cons pe_int (pa_cons pe_int (pa_cons pe_int (pa_cons pe_int (pa_cons pe_int (pa_cons pe_int pa_nil))))))) pa_nil))))))))
    (pss_one (ps_if (pt_cmpR op_gt (pe_callB (ksumA K rfl) (by rfl) T.b_sum boot_sum (pa_cons (pv 4) pa_nil)) pe_int (nomark _)) (pss_one (ps_expr (pe_bm PySem.F.plainAttrs_list PySem.F.slot_list_append PySem.F.type_list_append mt_append (pv 2) (pa_cons (pv 4) pa_nil)))) pss_nil))))
    (pss_cons (ps_setLc (i := 5) (own := [("lot", 4)]) (g := gName 4) rfl sc_law_kinds.nd rfl rfl (sw_true rfl rfl rfl (by decide +kernel)) (klist K (pv 2)) (by exact (blkOk_by (N := N_law_kinds) (sc := (defScope s_law_kinds)) (by decide +kernel))) (fun _ _ _ _ _ => by exact (pg_name (i := 4) sc_law_kinds.nd rfl (Or.inr rfl))) (fun _ _ _ _ _ => by exact (pts_one (pt_not (pt_val (pe_callB (kany K rfl) (by rfl) T.b_any boot_any (pa_cons (by exact (pe_lc (own := [("one", 7)]) (g := gName 7) rfl sc_law_kinds.nd (klist K (pv 2)) (by exact (blkOk_by (N := N_law_kinds) (sc := (relS _ (defScope s_law_kinds))) (by decide +kernel))) (fun _ _ _ _ _ => by exact (pg_name (i := 7) sc_law_kinds.nd rfl (Or.inl rfl))) (fun _ _ _ _ _ => by exact pts_nil) (fun _ _ _ _ _ => by exact (pe_and (pe_cmpR (kneD K hr.units) (pv 7) (pv 4) (nomark _)) (pe_one (pe_callB (kall K rfl) (by rfl) T.b_all boot_all (pa_cons (by exact (pe_lc (own := [("a", 8), ("b", 9)]) (g := gTup K 2 (gCons (gName 8) (gCons (gName 9) (gNil)))) rfl sc_law_kinds.nd (kzip K rfl T.b_zip (pa_cons (pv 7) (pa_cons (pv 4) pa_nil))) (by exact (blkOk_by (N := N_law_kinds) (sc := (relS _ (relS _ (defScope s_law_kinds)))) (by decide +kernel))) (fun _ _ _ _ _ => by exact (kgtup K rfl (pgs_cons (pg_name (i := 8) sc_law_kinds.nd rfl (Or.inl rfl)) (pgs_cons (pg_name (i := 9) sc_law_kinds.nd rfl (Or.inl rfl)) pgs_nil)))) (fun _ _ _ _ _ => by exact pts_nil) (fun _ _ _ _ _ => by exact (pe_cmpR op_le (pv 8) (pv 9) (nomark _))))) pa_nil))))))) pa_nil)))))) (fun _ _ _ _ _ => by exact (pv 4)))
    (pss_one (ps_ret (ktuple K (by rfl) T.b_tuple (pe_callB (ksortedT K P w rfl) (by rfl) T.b_sorted boot_sorted (pa_cons (pe_callTy (ksetT K P w rfl hr.units) (by rfl) T.b_set boot_set (pa_cons (pv 5) pa_nil)) pa_nil)))))))), ?_⟩
    refine s_asgF (M := HM hp c) (R := dT dI) (f_lst l_nil) si cc (fun a vs I1 H1 e1 c1 ha hI hH pv => ?_)
    cases pv
    have nsa : ¬ (HM hp c).s a := (HM hp c).fresh cc ha
    have nma : ¬ (HM hp c).m a := fun z => nsa ((HM hp c).ms _ z)
    refine s_forN (M := HM hp c) (sn_rng (n_i2 (P3 := fun n => 1 ≤ n ∧ n ≤ 5) e_int.n (n_draw rfl e_int (by decide) (by decide)) ?_) (fun n hn => ⟨by omega, by omega⟩)) b_name e1.si c1 (fun xs hxs => ?_)
    · rintro x y rfl hy; omega
    obtain ⟨n, hn, rfl⟩ := hxs
    refine ⟨fun i σ' J G => Ex (HM hp c).m I H J G ∧ ∃ us fs x3 x4 x5 x6 x7 x8 x9, σ' = [some (.ref hp), some v1, some (.ref a), x3, x4, x5, x6, x7, x8, x9] ∧ J a = none ∧ G a = some (.lst us) ∧ Paired (dT dI J) us fs ∧ (∀ l ∈ fs, LotOk many l) ∧ fs.length ≤ i, ?_, ?_, ?_, ?_⟩
    · rintro i σ' J G J2 G2 e2 ⟨q0, us, fs, x3, x4, x5, x6, x7, x8, x9, q1, q2, q3, q4, q5, q6⟩
      exact ⟨q0.trans e2.of0, us, fs, x3, x4, x5, x6, x7, x8, x9, q1, e2.out q2 (by rw [q3]; simp), e2.kp _ _ (fun z => z) q3, paired_up q4 e2.ii, q5, q6⟩
    · intro J G e2 c2
      exact ⟨e1.trans e2, [], [], none, none, none, none, none, none, none, rfl, e2.out hI (by rw [hH]; simp), e2.kp _ _ nma hH, .nil, (fun l hl => by cases hl), Nat.le_refl _⟩
    · rintro I0 s0 i hi σ1 σ2 J G sJ sG cJ ⟨q0, us, fs, x3, x4, x5, x6, x7, x8, x9, rfl, q2, q3, q4, q5, q6⟩ ⟨v, rfl, rv⟩
      rw [rng_length] at hi
      refine n_asg (M := HM hp c) (n_tupleL (n_lcN (R := dI) (fun xs i ys => ys.length = i ∧ ∀ y ∈ ys, 0 ≤ y ∧ y ≤ 3) (s_rng (e_var (Mono.up r1 q0.ii)) (by omega) (by omega)).n (fun xs hxs => ⟨by rw [hxs, rng_length, sizeLine_eq]; omega, rfl, fun y hy => by cases hy⟩) (fun xs hxs i hi ys hys v J2 G2 e2 q => ⟨nt_yes.imp fun b hb hb' => absurd hb' (by rw [hb]; exact fun z => nomatch z),
        (n_someI rfl (e_lst (l_cons e_int (l_cons e_int (l_cons e_int (l_cons e_int (l_cons e_int (l_cons e_int l_nil))))))) (by simp) (by simp)).imp fun y hy => ⟨by rw [List.length_append, hys.1]; rfl, fun z hz => ?_⟩⟩))) sG cJ (fun v4 lot J3 G3 e3 c3 q7 hlot => ?_)
      · rcases List.mem_append.mp hz with h | h
        · exact hys.2 z h
        · have e : z = y := by simpa using h
          subst e
          simp at hy; omega
      obtain ⟨_, rfl, hl1, hl2⟩ := hlot
      rw [rng_length] at hl1
      have p3 := q0.trans e3
      have g2 : J3 a = none := e3.out q2 (by rw [q3]; simp)
      have g3 : G3 a = some (.lst us) := e3.kp _ _ nma q3
      refine s_if (M := HM hp c) (c_test (e_b2 (e_sumAT (e_var q7)) e_int)) e3.si c3 (fun hb J4 G4 e4 c4 => ?_) (fun hb J4 G4 e4 c4 => ?_)
      · have hsum : 1 < lot.sum := of_decide_eq_true hb
        have p4 := p3.trans e4
        have g4 : J4 a = none := e4.out g2 (by rw [g3]; simp)
        have g5 : G4 a = some (.lst us) := e4.kp _ _ nma g3
        refine s_append (M := HM hp c) rfl g5 g4 nsa (e_var (Mono.up q7 e4.ii)) e4.si c4 (by rw [Paired.length q4, sizeLine_eq]; omega) (fun u J5 G5 e5 c5 g6 g7 ru => ?_)
        have ex := (p4.trans e5).put (o := .lst (us ++ [u])) (.inr ha) g7
        refine ⟨J5, sJ.trans ((e3.trans e4).trans e5).ii, ex.si, (HM hp c).put c5 nsa, ex, us ++ [u], fs ++ [lot], _, _, _, _, _, _, _, rfl, g7, upd_same, paired_app (paired_up q4 ((e3.trans e4).trans e5).ii) (.cons ru .nil), fun l hl => ?_, by rw [List.length_append]; simp; omega⟩
        rcases List.mem_append.mp hl with h | h
        · exact q5 l h
        · have e : l = lot := by simpa using h
          subst e
          exact ⟨by omega, fun z hz => by have := hl2 z hz; omega, hsum⟩
      · refine ⟨J4, sJ.trans (e3.trans e4).ii, e4.si, c4, p3.trans e4, us, fs, _, _, _, _, _, _, _, rfl, e4.out g2 (by rw [g3]; simp), e4.kp _ _ nma g3, paired_up q4 (e3.trans e4).ii, q5, by omega⟩
    · rintro σ1 J G sJ sG cJ ⟨q0, us, fs, x3, x4, x5, x6, x7, x8, x9, rfl, q2, q3, q4, q5, q6⟩
      rw [rng_length] at q6
      have z := q0.seal ha q3 q2
      have cz : (HM hp c).C (upd J a (.lst us)) G := (HM hp c).st0 cJ (fun b o _ h => h) fun b hb n => by
        rw [upd_ne (show b ≠ a from fun q => nsa (by rw [← q]; exact hb))]; exact n
      have qf : dL (dT dI) (upd J a (.lst us)) (.ref a) fs := ⟨a, us, rfl, upd_same, paired_up q4 (Sub.in_ q2)⟩
      have hlen : fs.length ≤ 5 := by omega
      have hll : ∀ l ∈ fs, l.length ≤ 3 := fun l hl => by have := (q5 l hl).len; omega
      refine s_asg (M := HM hp c) (e_lcNF (p := fun lot : List Int => isLeast fs lot) (f := fun lot : List Int => lot) (s_list (e_var qf)) (by rw [sizeLine_eq]; omega) (fun i hi v J2 G2 e2 q => c_not (c_val (e_anyL (e_lcN (f := fun one : List Int => !decide (one = fs[i]) && isAtMost one fs[i]) (s_list (e_var (Mono.up qf e2.ii))) (by rw [sizeLine_eq]; omega) (fun i' hi' v' J3 G3 e3 q' =>
        e_and (e_neD (e_var q') (e_var (Mono.up q e3.ii))) (fun _ => e_allL (e_lcP (f := fun p : Int × Int => decide (p.1 ≤ p.2)) (s_zipTT (e_var q') (e_var (Mono.up q e3.ii))) (by have := hll _ (List.getElem_mem hi'); rw [List.length_zip, sizeLine_eq]; omega) (fun n hn v w J G x q1 q2 => e_b2 (e_var q1) (e_var q2))))))))) (fun i hi v J2 G2 e2 q _ => e_var q)) z.si cz (fun v5 J2 G2 e2 c2 q7 => ?_)
      rw [List.map_id'' (fun _ => rfl)] at q7
      have p2 := z.trans e2
      have hsub : ∀ y ∈ fs.filter (isLeast fs), y ∈ fs := fun y hy => (List.mem_filter.mp hy).1
      refine n_ret (M := HM hp c) (n_tupleL (e_sortset (d := many.toNat) (B := 64) (by omega) (e_var q7) (Nat.lt_of_le_of_lt (List.length_filter_le _ _) (by omega)) (fun x hx => (q5 x (hsub x hx)).bd))) e2.si c2 (fun v ys J3 G3 e c3 r hy => k v ys J3 G3 (p2.trans e) c3 r ?_)
      obtain ⟨y1, y2, y3⟩ := hy
      have y4 : ys.length ≤ 5 := Nat.le_trans y3 (Nat.le_trans (List.length_filter_le _ _) hlen)
      have mem : ∀ y ∈ ys, y ∈ fs ∧ isLeast fs y = true := fun y hy => List.mem_filter.mp ((y1 y).mp hy)
      refine ⟨AOk.lots ⟨fun x hx => q5 x (mem x hx).1, ?_⟩ h1 h2 (by omega) (y2.imp fun h => .inl h), y4⟩
      refine List.Pairwise.imp_of_mem (fun {a b} ha hb hab => ?_) y2
      have hne : a ≠ b := fun e => by rw [e, lex_self] at hab; cases hab
      exact ⟨least_anti (mem a ha).1 (mem b hb).2 hne, least_anti (mem b hb).1 (mem a ha).2 (Ne.symm hne)⟩
end
end KK

namespace KK
open PySem PySem.Spec PyProof.Rows L2 RZ DL
section
variable {P : Program} {w : World} {K : PySem.W.Frag} {mg : Str → Option Value} {base : Heap}
theorem geq_most : ∀ (one lot : List Int), ((one.zip lot).map fun p => decide (p.2 ≤ p.1)).all id = isAtMost lot one
  | [], [] => rfl
  | [], _ :: _ => rfl
  | _ :: _, [] => rfl
  | a :: one, b :: lot => by
    have ih := geq_most one lot
    unfold isAtMost at ih ⊢
    simp only [List.zip_cons_cons, List.map_cons, List.all_cons]
    rw [ih]
def below (S : List (List Int)) (lot : List Int) : Bool := (S.map fun one => isAtMost one lot).any id
def above (S : List (List Int)) (lot : List Int) : Bool := (S.map fun one => ((one.zip lot).map fun p => decide (p.2 ≤ p.1)).all id).any id
theorem below_no {S : List (List Int)} {lot one : List Int} (h : below S lot = false) (h1 : one ∈ S) : isAtMost one lot = false := by
  unfold below at h
  rw [List.any_map, List.any_eq_false] at h
  exact Bool.eq_false_iff.mpr (h one h1)
theorem above_no {S : List (List Int)} {lot one : List Int} (h : above S lot = false) (h1 : one ∈ S) : isAtMost lot one = false := by
  unfold above at h
  rw [List.any_map, List.any_eq_false] at h
  have q := h one h1
  rw [← geq_most]
  exact Bool.eq_false_iff.mpr q
theorem AOk.add {m : Int} {S : List (List Int)} {lot : List Int} (h : AOk m S) (hl : LotOk m lot) (h1 : below S lot = false) (h2 : above S lot = false) : AOk m (S ++ [lot]) where
  ok := fun x hx => by
    rcases List.mem_append.mp hx with z | z
    · exact h.ok x z
    · have e : x = lot := by simpa using z
      rw [e]; exact hl
  anti := List.pairwise_append.mpr ⟨h.anti, by simp, fun a ha b hb => by
    have e : b = lot := by simpa using hb
    rw [e]
    exact ⟨below_no h1 ha, above_no h2 ha⟩⟩
abbrev sp_law_with_odd : Sp := spH (aCons dI (aCons (dL (dT dI)) aNil)) (fun x => 1 ≤ x.1 ∧ x.1 ≤ 3 ∧ AOk x.1 x.2.1) (dT (dT dI)) (fun x ls => LotsOk x.1 ls)
abbrev s_law_with_odd : Stmt := topS 43
abbrev N_law_with_odd : List Str := ["hand", "many", "some", "turn", "lot", "below", "above", "kind", "one", "a", "b"]
theorem sc_law_with_odd : FnScope N_law_with_odd ["hand", "many", "some"] (defScope s_law_with_odd) := ⟨rfl, rfl, rfl, by decide +kernel, rfl, by decide +kernel, by decide +kernel⟩
theorem mk_law_with_odd {f : Addr} {fd : FuncData} (F : Df K mg "_law_with_odd" s_law_with_odd ["hand", "many", "some"] f fd) (T : Txt mg) (c_law_draw : Cal P w K mg base 1 "_law_draw" sp_law_draw) : Cal P w K mg base 2 "_law_with_odd" sp_law_with_odd := by
  refine Cal.of F (F.fn.ok sc_law_with_odd (fun vs H Q E h => ?_) (fun cdv A outer s H vs Q E hr h => ?_))
  · obtain ⟨hp, c, r, I, x, rfl, si, cc, ⟨v1, _, rfl, r1, v2, _, rfl, r2, rfl⟩, hm, k⟩ := h
    rfl
  · obtain ⟨hp, c, r, I, ⟨many, S0, ⟨⟩⟩, rfl, si, cc, ⟨v1, _, rfl, r1, v2, _, rfl, r2, rfl⟩, ⟨h1, h2, hS0⟩, k⟩ := h
    dsimp only at *
    have hd : 1 ≤ many.toNat := by omega
    refine ⟨_, (pss_cons (ps_set (i := 2) sc_law_with_odd.nd rfl (Or.inl rfl) (pe_slice (kslL K) (pv 2) po_none (po_some pe_int)))
    (pss_cons (ps_for PassesOwn.never rfl (pi_range1 rfl T.b_range (pa_cons (pe_c c_law_draw hr (by decide) (by rfl) (pa_cons (pv 0) (pa_cons pe_int pa_nil))) pa_nil)) (pg_name (i := 3) sc_law_with_odd.nd rfl (Or.inl rfl))
    (pss_cons (ps_set (i := 4) sc_law_with_odd.nd rfl (Or.inr rfl) (ktuple K (by rfl) T.b_tuple (by exact (pe_lc (own := [("kind", 7)]) (g := gName 7) rfl sc_law_with_odd.nd (pi_range1 rfl T.b_range (pa_cons (pv 1) pa_nil)) (by exact (blkOk_by (N := N_law_with_odd) (sc := (defScope s_law_with_odd)) (by decide +kernel))) (fun _ _ _ _ _ => by exact (pg_name (i := 7) sc_law_with_odd.nd rfl (Or.inl rfl))) (fun _ _ _ _ _ => by exact pts_nil) (fun _ _ _ _ _ => by exact (pe_c c_law_draw hr (by decide) (by rfl) (pa_cons (pv 0) (pa_cons pe_int pa_nil))))))))
    (pss_cons (ps_set (i := 5) sc_law_with_odd.nd rfl (Or.inl rfl) (pe_callB (kany K rfl) (by rfl) T.b_any boot_any (pa_cons (by exact (pe_lc (own := [("one", 8)]) (g := gName 8) rfl sc_law_with_odd.nd (klist K (pv 2)) (by exact (blkOk_by (N := N_law_with_odd) (sc := (defScope s_law_with_odd)) (by decide +kernel))) (fun _ _ _ _ _ => by exact (pg_name (i := 8) sc_law_with_odd.nd rfl (Or.inl rfl))) (fun _ _ _ _ _ => by exact pts_nil) (fun _ _ _ _ _ => by exact (pe_callB (kall K rfl) (by rfl) T.b_all boot_all (pa_cons (by exact (pe_lc (own := [("a", 9), ("b", 10)]) (g := gTup K 2 (gCons (gName 9) (gCons (gName 10) (gNil)))) rfl sc_law_with_odd.nd (kzip K rfl T.b_zip (pa_cons (pv 8) (pa_cons (pv 4) pa_nil))) (by exact (blkOk_by (N := N_law_with_odd) (sc := (relS _ (defScope s_law_with_odd))) (by decide +kernel))) (fun _ _ _ _ _ => by exact (kgtup K rfl (pgs_cons (pg_name (i := 9) sc_law_with_odd.nd rfl (Or.inl rfl)) (pgs_cons (pg_name (i := 10) sc_law_with_odd.nd rfl (Or.inl rfl)) pgs_nil)))) (fun _ _ _ _ _ => by exact pts_nil) (fun _ _ _ _ _ => by exact (pe_cmpR op_le (pv 9) (pv 10) (nomark _))))) pa_nil))))) pa_nil)))
    (pss_cons (ps_set (i := 6) sc_law_with_odd.nd rfl (Or.inl rfl) (pe_callB (kany K rfl) (by rfl) T.b_any boot_any (pa_cons (by exact (pe_lc (own := [("one", 8)]) (g := gName 8) rfl sc_law_with_odd.nd (klist K (pv 2)) (by exact (blkOk_by (N := N_law_with_odd) (sc := (defScope s_law_with_odd)) (by decide +kernel))) (fun _ _ _ _ _ => by exact (pg_name (i := 8) sc_law_with_odd.nd rfl (Or.inl rfl))) (fun _ _ _ _ _ => by exact pts_nil) (fun _ _ _ _ _ => by exact (pe_callB (kall K rfl) (by rfl) T.b_all boot_all (pa_cons (by exact (pe_lc (own := [("a", 9), ("b", 10)]) (g := gTup K 2 (gCons (gName 9) (gCons (gName 10) (gNil)))) rfl sc_law_with_odd.nd (kzip K rfl T.b_zip (pa_cons (pv 8) (pa_cons (pv 4) pa_nil))) (by exact (blkOk_by (N := N_law_with_odd) (sc := (relS _ (defScope s_law_with_odd))) (by decide +kernel))) (fun _ _ _ _ _ => by exact (kgtup K rfl (pgs_cons (pg_name (i := 9) sc_law_with_odd.nd rfl (Or.inl rfl)) (pgs_cons (pg_name (i := 10) sc_law_with_odd.nd rfl (Or.inl rfl)) pgs_nil)))) (fun _ _ _ _ _ => by exact pts_nil) (fun _ _ _ _ _ => by exact (pe_cmpR op_ge (pv 9) (pv 10) (nomark _))))) pa_nil))))) pa_nil)))
    (pss_one (ps_set (i := 2) sc_law_with_odd.nd rfl (Or.inl rfl) (pe_ifExp (PW.pt (pw_and (pt_not (pt_val (pv 5))) (pw_and (pt_not (pt_val (pv 6))) (pw_and1 (pt_cmpR op_gt (pe_callB (ksumA K rfl) (by rfl) T.b_sum boot_sum (pa_cons (pv 4) pa_nil)) pe_int (nomark _)))))) (pe_op op_cat (pv 2) (pe_lst (pa_cons (pv 4) pa_nil))) (pv 2))))))))
    (pss_one (ps_ret (ktuple K (by rfl) T.b_tuple (pe_callB (ksortU K (B := 64) hd) (by rfl) T.b_sorted boot_sorted (pa_cons (pv 2) pa_nil))))))), ?_⟩
    have hc10 : (cut S0 none (some 10)).length ≤ 10 := by
      unfold cut HT.sIx
      rw [List.length_take]
      simp
      omega
    have hc10s : (cut S0 none (some 10)).Sublist S0 := (List.take_sublist _ _).trans (List.drop_sublist _ _)
    refine s_asg (M := HM hp c) (e_slL (e_var r2) o_none (o_some e_int)) si cc (fun v2' I1 H1 e1 c1 q2 => ?_)
    refine s_forN (M := HM hp c) (sn_rng (n_draw rfl e_int (by decide) (by decide)) (fun n hn => ⟨by omega, by omega⟩)) b_name e1.si c1 (fun xs hxs => ?_)
    obtain ⟨n, hn, rfl⟩ := hxs
    refine ⟨fun i σ' J G => Ex (HM hp c).m I H J G ∧ ∃ vs S x3 x4 x5 x6 x7 x8 x9 x10, σ' = [some (.ref hp), some v1, some vs, x3, x4, x5, x6, x7, x8, x9, x10] ∧ dL (dT dI) J vs S ∧ AOk many S ∧ S.length ≤ 10 + i, ?_, ?_, ?_, ?_⟩
    · rintro i σ' J G J2 G2 e2 ⟨q0, vs, S, x3, x4, x5, x6, x7, x8, x9, x10, q1, q3, q4, q5⟩
      exact ⟨q0.trans e2.of0, vs, S, x3, x4, x5, x6, x7, x8, x9, x10, q1, Mono.up q3 e2.ii, q4, q5⟩
    · intro J G e2 c2
      exact ⟨e1.trans e2, v2', _, none, none, none, none, none, none, none, none, rfl, Mono.up q2 e2.ii, hS0.sub hc10s, hc10⟩
    · rintro I0 s0 i hi σ1 σ2 J G sJ sG cJ ⟨q0, vs, S, x3, x4, x5, x6, x7, x8, x9, x10, rfl, q3, q4, q5⟩ ⟨v, rfl, rv⟩
      rw [rng_length] at hi
      have hSl : S.length ≤ 12 := by omega
      have hll : ∀ l ∈ S, l.length ≤ 3 := fun l hl => by have := (q4.ok l hl).len; omega
      refine n_asg (M := HM hp c) (n_tupleL (n_lcN (R := dI) (fun xs i ys => ys.length = i ∧ ∀ y ∈ ys, 0 ≤ y ∧ y ≤ 4) (s_rng (e_var (Mono.up r1 q0.ii)) (by omega) (by omega)).n (fun xs hxs => ⟨by rw [hxs, rng_length, sizeLine_eq]; omega, rfl, fun y hy => by cases hy⟩) (fun xs hxs i hi ys hys v J2 G2 e2 q => ⟨nt_yes.imp fun b hb hb' => absurd hb' (by rw [hb]; exact fun z => nomatch z),
        (n_draw rfl e_int (by decide) (by decide)).imp fun y hy => ⟨by rw [List.length_append, hys.1]; rfl, fun z hz => ?_⟩⟩))) sG cJ (fun v4 lot J3 G3 e3 c3 q7 hlot => ?_)
      · rcases List.mem_append.mp hz with h | h
        · exact hys.2 z h
        · have e : z = y := by simpa using h
          subst e
          omega
      obtain ⟨_, rfl, hl1, hl2⟩ := hlot
      rw [rng_length] at hl1
      refine s_asg (M := HM hp c) (e_anyL (e_lcN (f := fun one : List Int => isAtMost one lot) (s_list (e_var (Mono.up q3 e3.ii))) (by rw [sizeLine_eq]; omega) (fun i' hi' v' J4 G4 e4 q' => e_allL (e_lcP (f := fun p : Int × Int => decide (p.1 ≤ p.2)) (s_zipTT (e_var q') (e_var (Mono.up q7 e4.ii))) (by have := hll _ (List.getElem_mem hi'); rw [List.length_zip, sizeLine_eq]; omega) (fun n hn v w J G x q1 q2 => e_b2 (e_var q1) (e_var q2)))))) e3.si c3 (fun v5 J4 G4 e4 c4 q8 => ?_)
      refine s_asg (M := HM hp c) (e_anyL (e_lcN (f := fun one : List Int => ((one.zip lot).map fun p => decide (p.2 ≤ p.1)).all id) (s_list (e_var (Mono.up q3 (e3.trans e4).ii))) (by rw [sizeLine_eq]; omega) (fun i' hi' v' J5 G5 e5 q' => e_allL (e_lcP (f := fun p : Int × Int => decide (p.2 ≤ p.1)) (s_zipTT (e_var q') (e_var (Mono.up q7 (e4.ii.trans e5.ii)))) (by have := hll _ (List.getElem_mem hi'); rw [List.length_zip, sizeLine_eq]; omega) (fun n hn v w J G x q1 q2 => e_b2 (e_var q1) (e_var q2)))))) e4.si c4 (fun v6 J5 G5 e5 c5 q9 => ?_)
      have q8 : dB J4 v5 (below S lot) := q8
      have q9 : dB J5 v6 (above S lot) := q9
      have p5 := ((e3.trans e4).trans e5)
      refine s_asg (M := HM hp c) (e_if (c_and (c_not (c_val (e_var (Mono.up q8 e5.ii)))) (fun _ => c_and (c_not (c_val (e_var q9))) (fun _ => c_test (e_b2 (e_sumAT (e_var (Mono.up q7 (e4.ii.trans e5.ii)))) e_int)))) (fun _ => e_catL (e_var (Mono.up q3 p5.ii)) (e_lst (l_cons (e_var (Mono.up q7 (e4.ii.trans e5.ii))) l_nil)) (by rw [sizeLine_eq]; simp only [List.length_singleton]; omega)) (fun _ => e_var (Mono.up q3 p5.ii))) e5.si c5 (fun v7 J6 G6 e6 c6 q10 => ?_)
      refine ⟨J6, sJ.trans (p5.trans e6).ii, e6.si, c6, (q0.trans p5).trans e6, v7, _, _, _, _, _, _, _, _, _, rfl, q10, ?_, ?_⟩
      · split
        · rename_i hcond
          simp only [Bool.and_eq_true, Bool.not_eq_true', decide_eq_true_eq] at hcond
          exact q4.add ⟨by omega, hl2, hcond.2.2⟩ hcond.1 hcond.2.1
        · exact q4
      · split
        · rw [List.length_append]; simp; omega
        · omega
    · rintro σ1 J G sJ sG cJ ⟨q0, vs, S, x3, x4, x5, x6, x7, x8, x9, x10, rfl, q3, q4, q5⟩
      rw [rng_length] at q5
      refine n_ret (M := HM hp c) (n_tupleL (e_sortU (d := many.toNat) (B := 64) (e_var q3) (by omega) (fun x hx => (q4.ok x hx).bd))) sG cJ (fun v ys J3 G3 e c3 r hy => k v ys J3 G3 (q0.trans e) c3 r ?_)
      exact (q4.perm hy.1).lots h1 h2 (by rw [hy.1.length_eq]; omega) hy.2
end
end KK

namespace KK
open PySem PySem.Spec PyProof.Rows L2 RZ DL
section
variable {P : Program} {w : World} {K : PySem.W.Frag} {mg : Str → Option Value} {base : Heap}
def sumsB (m : Int) (w : Int) : Bool := (summing m w).all (fun x => decide ((x.length : Int) = m) && x.all (fun c => decide (0 ≤ c) && decide (c ≤ 4)) && decide (1 < x.sum)) &&
  decide ((summing m w).Pairwise fun a b => isAtMost a b = false ∧ isAtMost b a = false ∧ HT.lexLt a b = true) && decide (w ≤ 3 → (summing m w).length ≤ 12) && decide ((summing m w).length < 1000)
theorem sums_all : (rng 3).all (fun m => (rng 4).all fun w => sumsB (m + 1) (w + 2)) = true := by decide +kernel
theorem sums_ok {m w : Int} (h1 : 1 ≤ m) (h2 : m ≤ 3) (h3 : 2 ≤ w) (h4 : w ≤ 5) : sumsB m w = true := by
  have a := List.all_eq_true.mp sums_all (m - 1) (by unfold rng; exact List.mem_map.mpr ⟨(m - 1).toNat, List.mem_range.mpr (by omega), by omega⟩)
  have b := List.all_eq_true.mp a (w - 2) (by unfold rng; exact List.mem_map.mpr ⟨(w - 2).toNat, List.mem_range.mpr (by omega), by omega⟩)
  rw [show m - 1 + 1 = m by omega, show w - 2 + 2 = w by omega] at b
  exact b
theorem sums_facts {m w : Int} (h1 : 1 ≤ m) (h2 : m ≤ 3) (h3 : 2 ≤ w) (h4 : w ≤ 5) : AOk m (summing m w) ∧ (summing m w).Pairwise (fun a b => HT.lexLt a b = true) ∧ (w ≤ 3 → (summing m w).length ≤ 12) ∧ (summing m w).length < 1000 := by
  have h := sums_ok h1 h2 h3 h4
  unfold sumsB at h
  simp only [Bool.and_eq_true, decide_eq_true_eq, List.all_eq_true] at h
  obtain ⟨⟨⟨a, b⟩, c⟩, d⟩ := h
  exact ⟨⟨fun x hx => ⟨(a x hx).1.1, (a x hx).1.2, (a x hx).2⟩, b.imp fun h => ⟨h.1, h.2.1⟩⟩, b.imp fun h => h.2.2, c, d⟩
theorem lots_nil {m : Int} (h1 : 1 ≤ m) (h2 : m ≤ 3) : LotsOk m [] := AOk.lots ⟨(fun x hx => by cases hx), List.Pairwise.nil⟩ h1 h2 (Nat.zero_le _) .nil
theorem lots_ones {m : Int} (h1 : 1 < m) (h2 : m ≤ 3) : LotsOk m [(List.replicate m.toNat [(1 : Int)]).flatten] := by
  have : m = 2 ∨ m = 3 := by omega
  rcases this with rfl | rfl
  · exact AOk.lots ⟨fun x hx => by
      have e : x = [1, 1] := by simpa using hx
      rw [e]; exact ⟨rfl, by decide, by decide⟩, by simp⟩ (by decide) (by decide) (by decide) (by simp)
  · exact AOk.lots ⟨fun x hx => by
      have e : x = [1, 1, 1] := by simpa using hx
      rw [e]; exact ⟨rfl, by decide, by decide⟩, by simp⟩ (by decide) (by decide) (by decide) (by simp)
theorem most_snoc : ∀ {a b : List Int}, a.length = b.length → isAtMost (a ++ [0]) (b ++ [0]) = isAtMost a b
  | [], [], _ => rfl
  | x :: a, y :: b, h => by
    have ih := most_snoc (a := a) (b := b) (by simpa using h)
    unfold isAtMost at ih ⊢
    simp only [List.cons_append, List.zip_cons_cons, List.map_cons, List.all_cons]
    rw [ih]
theorem lex_snoc : ∀ {a b : List Int}, a.length = b.length → HT.lexLt (a ++ [0]) (b ++ [0]) = HT.lexLt a b
  | [], [], _ => rfl
  | x :: a, y :: b, h => by
    have ih := lex_snoc (a := a) (b := b) (by simpa using h)
    simp only [List.cons_append, HT.lexLt_cons]
    rw [ih]
theorem LotsOk.snoc {m : Int} {l : List (List Int)} (h : LotsOk (m - 1) l) (hm : m ≤ 3) : LotsOk m (l.map fun x => x ++ [0]) where
  lo := by have := h.lo; omega
  hi := hm
  few := by rw [List.length_map]; exact h.few
  ok := fun x hx => by
    obtain ⟨y, hy, rfl⟩ := List.mem_map.mp hx
    have q := h.ok y hy
    refine ⟨by rw [List.length_append]; have := q.len; simp; omega, fun c hc => ?_, by rw [List.sum_append]; have := q.sum; simp; omega⟩
    rcases List.mem_append.mp hc with z | z
    · exact q.cap c z
    · have e : c = 0 := by simpa using z
      rw [e]; decide
  asc := fun i hi => by
    rw [List.length_map] at hi
    rw [List.getElem_map, List.getElem_map, lex_snoc]
    · exact h.asc i hi
    · have a := (h.ok _ (List.getElem_mem (show i < l.length by omega))).len
      have b := (h.ok _ (List.getElem_mem hi)).len
      omega
  anti := fun i j hij hj => by
    rw [List.length_map] at hj
    have a := (h.ok _ (List.getElem_mem (show i < l.length by omega))).len
    have b := (h.ok _ (List.getElem_mem hj)).len
    rw [List.getElem_map, List.getElem_map, most_snoc (by omega), most_snoc (by omega)]
    exact h.anti i j hij hj
abbrev sp_law_some_kinds : Sp := spH aNil (fun _ => True) (dP dI (dT (dT dI))) (fun _ p => LotsOk p.1 p.2)
abbrev s_law_some_kinds : Stmt := topS 42
abbrev N_law_some_kinds : List Str := ["hand", "many", "way", "some", "lot"]
theorem sc_law_some_kinds : FnScope N_law_some_kinds ["hand"] (defScope s_law_some_kinds) := ⟨rfl, rfl, rfl, by decide +kernel, rfl, by decide +kernel, by decide +kernel⟩
theorem mk_law_some_kinds {f : Addr} {fd : FuncData} (F : Df K mg "_law_some_kinds" s_law_some_kinds ["hand"] f fd) (T : Txt mg) (c_law_draw : Cal P w K mg base 1 "_law_draw" sp_law_draw) (c_law_kinds : Cal P w K mg base 3 "_law_kinds" sp_law_kinds)
    (c_law_with_odd : Cal P w K mg base 2 "_law_with_odd" sp_law_with_odd) (c_law_summing : Cal P w K mg base 1 "_law_summing" sp_law_summing) : Cal P w K mg base 4 "_law_some_kinds" sp_law_some_kinds := by
  refine Cal.of F (F.fn.ok sc_law_some_kinds (fun vs H Q E h => ?_) (fun cdv A outer s H vs Q E hr h => ?_))
  · obtain ⟨hp, c, r, I, x, rfl, si, cc, rfl, hm, k⟩ := h
    rfl
  · obtain ⟨hp, c, r, I, x, rfl, si, cc, rfl, _, k⟩ := h
    refine ⟨_, (pss_cons (ps_par (i := 1) (j := 2) rfl sc_law_some_kinds.nd rfl rfl (by decide) rfl rfl (pa_cons (pe_op op_add pe_int (pe_c c_law_draw hr (by decide) (by rfl) (pa_cons (pv 0) (pa_cons pe_int pa_nil)))) (pa_cons (pe_c c_law_draw hr (by decide) (by rfl) (pa_cons (pv 0) (pa_cons pe_int pa_nil))) pa_nil)) rfl)
    (pss_cons (ps_if (PW.pt (pw_and (pt_cmpR op_eq (pv 2) pe_int (nomark _)) (pw_and1 (pt_cmpR op_eq (pe_c c_law_draw hr (by decide) (by rfl) (pa_cons (pv 0) (pa_cons pe_int pa_nil))) pe_int (nomark _))))) (pss_one (ps_ret (pe_tup (pa_cons (pv 1) (pa_cons (pe_tup pa_nil) pa_nil))))) pss_nil)
    (pss_cons (ps_if (pt_cmpR op_eq (pv 2) pe_int (nomark _)) (pss_one (ps_ret (pe_tup (pa_cons (pv 1) (pa_cons (pe_c c_law_summing hr (by decide) (by rfl) (pa_cons (pv 1) (pa_cons (pe_op op_add pe_int (pe_c c_law_draw hr (by decide) (by rfl) (pa_cons (pv 0) (pa_cons pe_int pa_nil)))) pa_nil))) pa_nil))))) pss_nil)
    (pss_cons (ps_if (PW.pt (pw_and (pt_cmpR op_eq (pv 2) pe_int (nomark _)) (pw_and1 (pt_cmpR op_gt (pv 1) pe_int (nomark _))))) (pss_one (ps_ret (pe_tup (pa_cons (pv 1) (pa_cons (pe_tup (pa_cons (pe_op (krepT K) (pe_tup (pa_cons pe_int pa_nil)) (pv 1)) pa_nil)) pa_nil))))) pss_nil)
    (pss_cons (ps_if (PW.pt (pw_and (pt_cmpR op_eq (pv 2) pe_int (nomark _)) (pw_and1 (pt_cmpR op_gt (pv 1) pe_int (nomark _))))) (pss_one (ps_ret (pe_tup (pa_cons (pv 1) (pa_cons (ktuple K (by rfl) T.b_tuple (by exact (pe_lc (own := [("lot", 4)]) (g := gName 4) rfl sc_law_some_kinds.nd (ktup K (pe_c c_law_kinds hr (by decide) (by rfl) (pa_cons (pv 0) (pa_cons (pe_op op_sub (pv 1) pe_int) pa_nil)))) (by exact (blkOk_by (N := N_law_some_kinds) (sc := (defScope s_law_some_kinds)) (by decide +kernel))) (fun _ _ _ _ _ => by exact (pg_name (i := 4) sc_law_some_kinds.nd rfl (Or.inl rfl))) (fun _ _ _ _ _ => by exact pts_nil) (fun _ _ _ _ _ => by exact (pe_op (kcatT K) (pv 4) (pe_tup (pa_cons pe_int pa_nil))))))) pa_nil))))) pss_nil)
    (pss_cons (ps_if (PW.pt (pw_and (pt_cmpR op_gt (pv 2) pe_int (nomark _)) (pw_and1 (pt_cmpR op_lt (pv 2) pe_int (nomark _))))) (pss_cons (ps_setLc (i := 3) (own := [("lot", 4)]) (g := gName 4) rfl sc_law_some_kinds.nd rfl rfl (sw_true rfl rfl rfl (by decide +kernel)) (ktup K (pe_c c_law_summing hr (by decide) (by rfl) (pa_cons (pv 1) (pa_cons (pe_op op_add pe_int (pe_c c_law_draw hr (by decide) (by rfl) (pa_cons (pv 0) (pa_cons pe_int pa_nil)))) pa_nil)))) (by exact (blkOk_by (N := N_law_some_kinds) (sc := (defScope s_law_some_kinds)) (by decide +kernel))) (fun _ _ _ _ _ => by exact (pg_name (i := 4) sc_law_some_kinds.nd rfl (Or.inl rfl))) (fun _ _ _ _ _ => by exact (pts_one (pt_cmpR op_gt (pe_c c_law_draw hr (by decide) (by rfl) (pa_cons (pv 0) (pa_cons pe_int pa_nil))) pe_int (nomark _)))) (fun _ _ _ _ _ => by exact (pv 4)))
    (pss_one (ps_ret (pe_tup (pa_cons (pv 1) (pa_cons (pe_c c_law_with_odd hr (by decide) (by rfl) (pa_cons (pv 0) (pa_cons (pv 1) (pa_cons (pe_ifExp (pt_cmpR (kneD K hr.units) (pv 3) (pe_lst pa_nil) (nomark _)) (pv 3) (pe_callTy (klistof K) (by rfl) T.b_list boot_list (pa_cons (pe_c c_law_summing hr (by decide) (by rfl) (pa_cons (pv 1) (pa_cons pe_int pa_nil))) pa_nil))) pa_nil)))) pa_nil)))))) pss_nil)
    (pss_one (ps_ret (pe_tup (pa_cons (pv 1) (pa_cons (pe_c c_law_kinds hr (by decide) (by rfl) (pa_cons (pv 0) (pa_cons (pv 1) pa_nil))) pa_nil))))))))))), ?_⟩
    refine n_par (M := HM hp c) (n_i2 (P3 := fun n => 1 ≤ n ∧ n ≤ 3) e_int.n (n_draw rfl e_int (by decide) (by decide)) (by rintro a b rfl hb; omega)) (n_draw rfl e_int (by decide) (by decide)) si cc (fun v1 v2 many way I1 H1 e1 c1 r1 r2 hm hw => ?_)
    obtain ⟨h1, h2⟩ := hm
    -- what is given back
    have fin : ∀ {te : TE} {J G : Hp}, Ex (HM hp c).m I H J G → (HM hp c).C J G → ∀ {σ : L2.St}, N (HM hp c) te σ J G (dP dI (dT (dT dI))) (fun p => LotsOk p.1 p.2) → tRet te { nx := fun _ H' => Q .non H', rt := Q } σ G := fun {te J G} e c1 {σ} d => n_ret d e.si c1 fun v p J2 G2 e2 c2 r hp => k v p J2 G2 (e.trans e2) c2 r hp
    refine s_ifN (M := HM hp c) (P := fun b => True) (nt_and (c_test (e_eqI (e_var r2) e_int)) (fun _ => nt_test (n_eqI (P3 := fun _ => True) (n_draw rfl e_int (by decide) (by decide)) e_int.n (fun _ _ _ _ => True.intro))) (fun _ => True.intro)) e1.si c1 (fun _ I2 H2 e2 c2 => ?_) (fun _ I2 H2 e2 c2 => ?_)
    · have p2 := e1.trans e2
      exact fin p2 c2 ((e_pair (e_var (Mono.up r1 e2.ii)) (e_tup (R := dT dI) l_nil)).n.imp fun p h => by rw [h]; exact lots_nil h1 h2)
    have p2 := e1.trans e2
    refine s_if (M := HM hp c) (c_test (e_eqI (e_var (Mono.up r2 e2.ii)) e_int)) e2.si c2 (fun hb I3 H3 e3 c3 => ?_) (fun hb I3 H3 e3 c3 => ?_)
    · have p3 := p2.trans e3
      refine fin p3 c3 ((n_pair (e_var (Mono.up r1 (e2.ii.trans e3.ii))).n (n_cal (P := fun x : Int × Int × Unit => x.1 = many ∧ 2 ≤ x.2.1 ∧ x.2.1 ≤ 3) ((na_cons (e_var (Mono.up r1 (e2.ii.trans e3.ii))).n (fun _ _ => na_cons (n_i2 (P3 := fun n => 2 ≤ n ∧ n ≤ 3) e_int.n (n_draw rfl e_int (by decide) (by decide)) (by rintro a b rfl hb; omega)) (fun _ _ => na_nil))).imp (fun x hx => ⟨hx.1, hx.2.1⟩)) (fun x hx => ⟨by omega, by omega, by omega, by omega⟩))).imp ?_)
      rintro ⟨m, ls⟩ ⟨rfl, x, hx, rfl⟩
      dsimp only at hx ⊢
      obtain ⟨rfl, hx1, hx2⟩ := hx
      have f := sums_facts h1 h2 hx1 (by omega)
      exact f.1.lots h1 h2 (f.2.2.1 hx2) (f.2.1.imp fun h => .inl h)
    have p3 := p2.trans e3
    refine s_if (M := HM hp c) (c_and (c_test (e_eqI (e_var (Mono.up r2 (e2.ii.trans e3.ii))) e_int)) (fun _ => c_test (e_b2 (e_var (Mono.up r1 (e2.ii.trans e3.ii))) e_int))) e3.si c3 (fun hb I4 H4 e4 c4 => ?_) (fun hb I4 H4 e4 c4 => ?_)
    · have p4 := p3.trans e4
      have hgt : 1 < many := by rw [Bool.and_eq_true] at hb; exact of_decide_eq_true hb.2
      have q1 := Mono.up r1 ((e2.ii.trans e3.ii).trans e4.ii)
      exact fin p4 c4 ((e_pair (e_var q1) (e_tup (R := dT dI) (l_cons (e_repT (e_tup (l_cons (e_int (i := 1)) l_nil)) (e_var q1) (by omega) (by omega) (by simp only [List.length_singleton]; omega)) l_nil))).n.imp fun p h => by rw [h]; exact lots_ones hgt h2)
    have p4 := p3.trans e4
    have s4 := (e2.ii.trans e3.ii).trans e4.ii
    refine s_if (M := HM hp c) (c_and (c_test (e_eqI (e_var (Mono.up r2 s4)) e_int)) (fun _ => c_test (e_b2 (e_var (Mono.up r1 s4)) e_int))) e4.si c4 (fun hb I5 H5 e5 c5 => ?_) (fun hb I5 H5 e5 c5 => ?_)
    · have p5 := p4.trans e5
      have hgt : 1 < many := by rw [Bool.and_eq_true] at hb; exact of_decide_eq_true hb.2
      have q1 := Mono.up r1 (s4.trans e5.ii)
      refine fin p5 c5 ((n_pair (e_var q1).n (n_tupleL (n_lcN (R := dT dI) (PX := fun ls => LotsOk (many - 1) ls ∧ ls.length ≤ 5) (fun xs i ys => ys = (xs.take i).map fun x => x ++ [0]) (sn_tup ((n_callH rfl (a_cons (e_i2 (e_var q1) e_int) a_nil) ⟨by dsimp only; omega, by dsimp only; omega⟩))) (fun xs hxs => ⟨by rw [sizeLine_eq]; have := hxs.2; omega, rfl⟩) (fun xs hxs i hi ys hys v J2 G2 e q => ⟨nt_yes.imp fun b hb hb' => absurd hb' (by rw [hb]; exact fun z => nomatch z),
        (e_catT (e_var q) (e_tup (l_cons (e_int (i := 0)) l_nil)) (by have := (hxs.1.ok _ (List.getElem_mem hi)).len; rw [sizeLine_eq]; simp only [List.length_singleton]; omega)).n.imp fun y hy => by rw [hy, hys, take_snoc hi, List.map_append]; rfl⟩)))).imp ?_)
      rintro ⟨m, ls⟩ ⟨rfl, xs, hxs, e⟩
      dsimp only at e ⊢
      rw [e, List.take_length]
      exact hxs.1.snoc h2
    have p5 := p4.trans e5
    have s5 := s4.trans e5.ii
    refine s_if (M := HM hp c) (c_and (c_test (e_b2 (e_var (Mono.up r2 s5)) e_int)) (fun _ => c_test (e_b2 (e_var (Mono.up r2 s5)) e_int))) e5.si c5 (fun hb I6 H6 e6 c6 => ?_) (fun hb I6 H6 e6 c6 => ?_)
    · have p6 := p5.trans e6
      have q1 := Mono.up r1 (s5.trans e6.ii)
      refine n_asg (M := HM hp c) (n_lcN (R := dT dI) (PX := fun xs => ∃ x : Int × Int × Unit, (x.1 = many ∧ 2 ≤ x.2.1 ∧ x.2.1 ≤ 5) ∧ xs = summing x.1 x.2.1) (fun xs i ys => ys.Sublist (xs.take i)) (sn_tup (n_cal (A := aCons dI (aCons dI aNil)) (P := fun x : Int × Int × Unit => x.1 = many ∧ 2 ≤ x.2.1 ∧ x.2.1 ≤ 5) ((na_cons (e_var q1).n (fun _ _ => na_cons (n_i2 (P3 := fun n => 2 ≤ n ∧ n ≤ 5) e_int.n (n_draw rfl e_int (by decide) (by decide)) (by rintro a b rfl hb; omega)) (fun _ _ => na_nil))).imp (fun x hx => ⟨hx.1, hx.2.1⟩)) (fun x hx => ⟨by omega, by omega, by omega, by omega⟩))) (fun xs hxs => ?_) (fun xs hxs i hi ys hys v J2 G2 e q => ⟨(nt_test (n_b2 (P3 := fun _ => True) (n_draw rfl e_int (by decide) (by decide)) e_int.n (fun _ _ _ _ => True.intro))).imp fun b _ _ => ?_, (e_var q).n.imp fun y hy => ?_⟩)) e6.si c6 (fun v3 S I7 H7 e7 c7 q3 hS => ?_)
      · obtain ⟨⟨m, ⟨w', ⟨⟩⟩⟩, ⟨rfl, hx1, hx2⟩, rfl⟩ := hxs
        exact ⟨by have := (sums_facts h1 h2 hx1 hx2).2.2.2; rw [sizeLine_eq]; omega, List.Sublist.refl _⟩
      · rw [take_snoc hi]; exact hys.trans (List.sublist_append_left _ _)
      · rw [take_snoc hi, hy]; exact hys.append (List.Sublist.refl _)
      obtain ⟨xs, ⟨⟨m, ⟨w', ⟨⟩⟩⟩, ⟨rfl, hx1, hx2⟩, rfl⟩, hsub⟩ := hS
      rw [List.take_length] at hsub
      dsimp only at hsub hx1 hx2 h1 h2 q1
      have hA := (sums_facts h1 h2 hx1 hx2).1.sub hsub
      have p7 := p6.trans e7
      have q2 := Mono.up q1 e7.ii
      have hB := (sums_facts h1 h2 (show (2 : Int) ≤ 3 by decide) (by decide)).1
      refine fin p7 c7 ((n_pair (e_var q2).n (n_callH rfl (a_cons (e_var q2) (a_cons (e_if (c_test (e_neD (e_var q3) (e_lst (R := dT dI) l_nil))) (fun _ => e_var q3) (fun _ => e_listT (e_call (a_cons (e_var q2) (a_cons (e_int (i := 3)) a_nil)) ⟨h1, h2, (show (0 : Int) ≤ 3 by decide), (show (3 : Int) ≤ 100 by decide)⟩))) a_nil)) ⟨h1, h2, ?_⟩)).imp ?_)
      · rintro ⟨m, ls⟩ ⟨rfl, hls⟩
        exact hls
      · dsimp only
        split
        · exact hA
        · exact hB
    · have p6 := p5.trans e6
      have q1 := Mono.up r1 (s5.trans e6.ii)
      refine fin p6 c6 ((n_pair (e_var q1).n (n_callH rfl (a_cons (e_var q1) a_nil) ⟨h1, h2⟩)).imp ?_)
      rintro ⟨m, ls⟩ ⟨rfl, hls⟩
      exact hls.1
end
end KK

/-! the plain law: the program's capped states tell the law's counts -/
namespace KK
open PySem PySem.Spec PyProof.Rows L2 RZ DL
theorem ext_getD {xs ys : List Int} (hl : xs.length = ys.length) (h : ∀ i : Nat, i < xs.length → xs.getD i 0 = ys.getD i 0) : xs = ys := by
  apply List.ext_getElem hl
  intro i h1 h2
  rw [getElem_getD h1, getElem_getD h2]
  exact h i h1
theorem getD_map_zip {f : Int × Int → Int} {a b : List Int} {i : Nat} (h1 : i < a.length) (h2 : i < b.length) : ((a.zip b).map f).getD i 0 = f (a.getD i 0, b.getD i 0) := by
  have hz : i < (a.zip b).length := by rw [List.length_zip]; omega
  rw [List.getD_eq_getElem?_getD, List.getElem?_map, List.getElem?_eq_getElem hz]
  obtain ⟨_, _, e⟩ := zip_get hz
  rw [e, getElem_getD h1, getElem_getD h2]; rfl
theorem capL_len {caps c : List Int} (h : c.length = caps.length) : (capL caps c).length = c.length := by unfold capL; rw [List.length_map, List.length_zip]; omega
theorem capL_get {caps c : List Int} {i : Nat} (h : c.length = caps.length) (hi : i < c.length) : (capL caps c).getD i 0 = (if caps.getD i 0 < c.getD i 0 then caps.getD i 0 else c.getD i 0) := getD_map_zip hi (by omega)
theorem moreOf_get {s : List Int} {k : Int} {i : Nat} (hi : i < s.length) : (moreOf s k).getD i 0 = s.getD i 0 + (if (i : Int) = k then 1 else 0) := by
  have hz : i < (enum s).length := by rw [enum_length]; exact hi
  unfold moreOf
  rw [List.getD_eq_getElem?_getD, List.getElem?_map, List.getElem?_eq_getElem hz]
  obtain ⟨_, e⟩ := enum_get hz
  rw [e, getElem_getD hi]
  show s.getD i 0 + (if decide ((i : Int) = k) = true then 1 else 0) = _
  by_cases hik : (i : Int) = k
  · rw [if_pos hik, decide_eq_true hik]; rfl
  · rw [if_neg hik, decide_eq_false hik]; rfl
theorem moreOf_one {s : List Int} {k : Int} (h0 : 0 ≤ k) (h1 : k < s.length) : moreOf s k = withOne s k := by
  rw [withOne_set h0 h1]
  refine ext_getD (by rw [moreOf_len, List.length_set]) fun i hi => ?_
  rw [moreOf_len] at hi
  rw [moreOf_get hi, getD_set]
  by_cases hik : (i : Int) = k
  · subst hik
    rw [if_pos rfl, if_pos ⟨by simp, by simp; exact hi⟩, Int.toNat_natCast]
  · rw [if_neg hik, if_neg (fun z => hik (by omega)), Int.add_zero]
theorem most_enum {lot more : List Int} (h : lot.length ≤ more.length) : ((enum lot).map fun q => decide (q.2 ≤ more.getD q.1.toNat 0)).all id = isAtMost lot more := by
  rw [Bool.eq_iff_iff]
  unfold isAtMost
  rw [List.all_map, List.all_map, List.all_eq_true, List.all_eq_true]
  constructor
  · intro q p hp
    obtain ⟨i, hi, rfl⟩ := List.getElem_of_mem hp
    obtain ⟨h1, h2, e⟩ := zip_get hi
    have hz : i < (enum lot).length := by rw [enum_length]; exact h1
    obtain ⟨_, e2⟩ := enum_get hz
    have z := q _ (List.getElem_mem hz)
    rw [e2] at z
    rw [e]
    show decide (lot[i] ≤ more[i]) = true
    have z' : decide (lot[i] ≤ more.getD ((i : Int)).toNat 0) = true := z
    rw [Int.toNat_natCast, ← getElem_getD h2] at z'
    exact z'
  · intro q p hp
    obtain ⟨i, hi, rfl⟩ := List.getElem_of_mem hp
    obtain ⟨h1, e⟩ := enum_get hi
    have hz : i < (lot.zip more).length := by rw [List.length_zip]; omega
    obtain ⟨_, h2, e2⟩ := zip_get hz
    have z := q _ (List.getElem_mem hz)
    rw [e2] at z
    rw [e]
    show decide (lot[i] ≤ more.getD ((i : Int)).toNat 0) = true
    rw [Int.toNat_natCast, ← getElem_getD h2]
    exact z
theorem out_eq {p : Kd} {s : List Int} {k : Int} (hp : KOk p) (hs : s.length = p.1.toNat) (h0 : 0 ≤ k) (h1 : k < p.1) : (p.2.map fun l => isAtMost l (withOne s k)).any id = isOut p.2 s k := by
  unfold isOut
  rw [moreOf_one h0 (by omega)]
  congr 1
  apply List.map_congr_left
  intro l hl
  rw [most_enum]
  rw [hp.len l hl, withOne_set h0 (by omega), List.length_set, hs]
  exact Nat.le_refl _
theorem mm1 (x y : Int) : (if x < (if x < y then x else y) + 1 then x else (if x < y then x else y) + 1) = (if x < y + 1 then x else y + 1) := by
  by_cases h1 : x < y
  · rw [if_pos h1, if_pos (show x < x + 1 by omega), if_pos (show x < y + 1 by omega)]
  · rw [if_neg h1]
theorem mm2 (x y : Int) : (if x < (if x < y then x else y) then x else (if x < y then x else y)) = (if x < y then x else y) := by
  by_cases h1 : x < y
  · rw [if_pos h1, if_neg (Int.lt_irrefl x)]
  · rw [if_neg h1, if_neg h1]
section
variable {p : Kd} {caps row : List Int}
theorem step_eq {c : List Int} {k : Int} (hp : KOk p) (hc : capsOf p = caps) (hl : c.length = p.1.toNat) (h0 : 0 ≤ k) (h1 : k < p.1) :
    stepK p (capL caps c) k = (!isOut p.2 (capL caps c) k, capL caps (stepL p.2 caps c k)) := by
  have hcl : caps.length = p.1.toNat := by rw [← hc]; exact capsOf_len p
  have hcc : (capL caps c).length = p.1.toNat := by rw [capL_len (by omega), hl]
  unfold stepK
  rw [out_eq hp hcc h0 h1]
  cases ho : isOut p.2 (capL caps c) k with
  | true =>
    rw [if_pos rfl]
    have e : stepL p.2 caps c k = c := by
      unfold stepL
      rw [ho]
      refine ext_getD (by rw [List.length_set]) fun i hi => ?_
      rw [getD_set]
      split
      · rename_i z
        rw [← z.1]
        show c.getD k.toNat 0 + (if (!true) = true then 1 else 0) = _
        simp
      · rfl
    rw [e]; rfl
  | false =>
    rw [if_neg Bool.false_ne_true]
    refine Prod.ext rfl ?_
    show cappedK p (withOne (capL caps c) k) = capL caps (stepL p.2 caps c k)
    have e1 : cappedK p (withOne (capL caps c) k) = capL caps (withOne (capL caps c) k) := by unfold cappedK capL; rw [hc]
    rw [e1, withOne_set h0 (by omega)]
    unfold stepL
    rw [ho]
    have l1 : ((capL caps c).set k.toNat ((capL caps c).getD k.toNat 0 + 1)).length = caps.length := by rw [List.length_set]; omega
    have l2 : (c.set k.toNat (c.getD k.toNat 0 + (if (!false) = true then 1 else 0))).length = caps.length := by rw [List.length_set]; omega
    refine ext_getD (by rw [capL_len l1, capL_len l2, l1, l2]) fun i hi => ?_
    rw [capL_len l1, l1] at hi
    rw [capL_get l1 (by omega), capL_get l2 (by omega), getD_set, getD_set]
    have g := capL_get (caps := caps) (c := c) (i := i) (by omega) (by omega)
    have gk := capL_get (caps := caps) (c := c) (i := k.toNat) (by omega) (by omega)
    by_cases hik : k.toNat = i
    · subst hik
      rw [if_pos (⟨rfl, by omega⟩ : k.toNat = k.toNat ∧ k.toNat < (capL caps c).length), if_pos (⟨rfl, by omega⟩ : k.toNat = k.toNat ∧ k.toNat < c.length), gk]
      show (if _ < _ then _ else _) = (if _ < c.getD k.toNat 0 + (if true = true then 1 else 0) then _ else _)
      show _ = (if _ < c.getD k.toNat 0 + 1 then _ else c.getD k.toNat 0 + 1)
      exact mm1 _ _
    · rw [if_neg (show ¬ (k.toNat = i ∧ k.toNat < (capL caps c).length) from fun z => hik z.1), if_neg (show ¬ (k.toNat = i ∧ k.toNat < c.length) from fun z => hik z.1), g]
      exact mm2 _ _
def flagsOf (p : Kd) (caps row c : List Int) : List Bool := (runK p (capL caps c) row).1
theorem run_eq {c : List Int} (hp : KOk p) (hc : capsOf p = caps) (hl : c.length = p.1.toNat) : ∀ {row : List Int}, (∀ k ∈ row, 0 ≤ k ∧ k < p.1) →
    (runK p (capL caps c) row).2 = capL caps (roundL p.2 caps row c) ∧ (row.zip (runK p (capL caps c) row).1).foldl (cnt1 1) c = roundL p.2 caps row c := by
  have hcl : caps.length = p.1.toNat := by rw [← hc]; exact capsOf_len p
  have hcc : (capL caps c).length = p.1.toNat := by rw [capL_len (by omega), hl]
  intro row
  refine snoc_ind (P := fun row => (∀ k ∈ row, 0 ≤ k ∧ k < p.1) → (runK p (capL caps c) row).2 = capL caps (roundL p.2 caps row c) ∧ (row.zip (runK p (capL caps c) row).1).foldl (cnt1 1) c = roundL p.2 caps row c) (fun _ => ⟨rfl, rfl⟩) (fun row k ih => ?_) row
  intro hr
  obtain ⟨i1, i2⟩ := ih fun k hk => hr k (List.mem_append_left _ hk)
  have hk := hr k (by simp)
  have hlen := runK_len hcc (row := row) fun k hk => hr k (List.mem_append_left _ hk)
  have hround : (roundL p.2 caps row c).length = p.1.toNat := by rw [roundL_len, hl]
  have hstep := step_eq (c := roundL p.2 caps row c) hp hc hround hk.1 hk.2
  have er : roundL p.2 caps (row ++ [k]) c = stepL p.2 caps (roundL p.2 caps row c) k := by unfold roundL; rw [List.foldl_append]; rfl
  rw [runK_snoc, i1, hstep, er]
  refine ⟨rfl, ?_⟩
  rw [List.zip_append (by rw [hlen.1]), List.foldl_append, i2]
  show cnt1 1 (roundL p.2 caps row c) (k, !isOut p.2 (capL caps (roundL p.2 caps row c)) k) = stepL p.2 caps (roundL p.2 caps row c) k
  unfold cnt1 stepL
  rw [Int.one_mul]
def cntN (l : List (Int × Bool)) (i : Nat) : Int := (l.map fun q => if q.1.toNat = i ∧ q.2 = true then (1 : Int) else 0).sum
theorem foldl_cnt (t : Int) (i : Nat) : ∀ (l : List (Int × Bool)) (f : List Int), (∀ q ∈ l, q.1.toNat < f.length) → (l.foldl (cnt1 t) f).getD i 0 = f.getD i 0 + t * cntN l i
  | [], f, _ => by simp [cntN]
  | q :: l, f, h => by
    have hq := h q (List.mem_cons_self ..)
    have hl : (cnt1 t f q).length = f.length := by unfold cnt1; rw [List.length_set]
    rw [List.foldl_cons, foldl_cnt t i l _ fun r hr => by rw [hl]; exact h r (List.mem_cons_of_mem _ hr)]
    have e : cntN (q :: l) i = (if q.1.toNat = i ∧ q.2 = true then (1 : Int) else 0) + cntN l i := by unfold cntN; rw [List.map_cons, List.sum_cons]
    rw [e, Int.mul_add]
    have g : (cnt1 t f q).getD i 0 = f.getD i 0 + t * (if q.1.toNat = i ∧ q.2 = true then (1 : Int) else 0) := by
      unfold cnt1
      rw [getD_set]
      by_cases h1 : q.1.toNat = i
      · rw [if_pos ⟨h1, hq⟩, h1]
        cases q.2 with
        | true => rw [if_pos rfl, if_pos ⟨rfl, rfl⟩]
        | false => rw [if_neg Bool.false_ne_true, if_neg (fun z => Bool.false_ne_true z.2)]
      · rw [if_neg (fun z => h1 z.1), if_neg (fun z => h1 z.1), Int.mul_zero, Int.add_zero]
    rw [g]; omega
theorem zip_small {c : List Int} {fl : List Bool} (hl : c.length = p.1.toNat) (hr : ∀ k ∈ row, 0 ≤ k ∧ k < p.1) : ∀ q ∈ row.zip fl, q.1.toNat < c.length := fun q hq => by
  have := hr q.1 (List.of_mem_zip hq).1
  omega
theorem begin_get {i : Nat} : (begin_ p).getD i 0 = 0 := by
  rw [begin_rep, List.getD_eq_getElem?_getD, List.getElem?_replicate]
  split <;> rfl
theorem caps_nonneg {i : Nat} : 0 ≤ (capsOf p).getD i 0 := by
  unfold capsOf
  rw [List.getD_eq_getElem?_getD, List.getElem?_map]
  cases (rng p.1)[i]? with
  | none => exact Int.le_refl _
  | some k => exact maxL_le (List.mem_cons_self ..)
theorem capL_begin (hc : capsOf p = caps) : capL caps (begin_ p) = begin_ p := by
  have hcl : caps.length = p.1.toNat := by rw [← hc]; exact capsOf_len p
  have hb := begin_len p
  refine ext_getD (capL_len (by omega)) fun i hi => ?_
  rw [capL_len (by omega)] at hi
  rw [capL_get (by omega) hi, begin_get]
  have := caps_nonneg (p := p) (i := i)
  rw [hc] at this
  rw [if_neg (by omega)]
end
end KK

/-! all stands that rows of kinds come to: a search, the least row to each -/
namespace KK
open PySem PySem.Spec PyProof.Rows L2 RZ DL
abbrev Sts := List (List Int × List Int)
def tryK (p : Kd) (q : List Int × List Int) (fs : Sts) (k : Int) : Sts := if (stepK p q.1 k).2 ∈ fs.map Prod.fst then fs else fs ++ [((stepK p q.1 k).2, q.2 ++ [k])]
def turnK (p : Kd) (q : List Int × List Int) (fs : Sts) : Sts := (rng p.1).foldl (tryK p q) fs
def bfsK (p : Kd) : Nat → Nat → Sts → Sts
  | 0, _, fs => fs
  | n + 1, i, fs => match fs[i]? with
    | none => fs
    | some q => bfsK p n (i + 1) (turnK p q fs)
@[irreducible] def allStates (p : Kd) : Sts := bfsK p 126 0 [(begin_ p, [])]
theorem allStates_is (p : Kd) : allStates p = bfsK p 126 0 [(begin_ p, [])] := by unfold allStates; rfl
/-! ### few -/
theorem nodup_le {α : Type} [DecidableEq α] : ∀ {l m : List α}, l.Nodup → (∀ x ∈ l, x ∈ m) → l.length ≤ m.length
  | [], _, _, _ => Nat.zero_le _
  | x :: l, m, nd, sub => by
    have hx : x ∈ m := sub x (List.mem_cons_self ..)
    obtain ⟨n1, n2⟩ := List.nodup_cons.mp nd
    have ih := nodup_le (m := m.erase x) n2 fun y hy => (List.mem_erase_of_ne (show y ≠ x from fun e => n1 (by rw [← e]; exact hy))).mpr (sub y (List.mem_cons_of_mem _ hy))
    have := List.length_erase_of_mem hx
    have pos : 0 < m.length := List.length_pos_of_mem hx
    rw [List.length_cons]
    omega
def univ : Nat → List (List Int)
  | 0 => [[]]
  | n + 1 => ((univ n).map fun r => [0 :: r, 1 :: r, 2 :: r, 3 :: r, 4 :: r]).flatten
theorem univ_len : ∀ n, (univ n).length = 5 ^ n
  | 0 => rfl
  | n + 1 => by
    have key : ∀ l : List (List Int), ((l.map fun r => [(0 : Int) :: r, 1 :: r, 2 :: r, 3 :: r, 4 :: r]).flatten).length = 5 * l.length := fun l => by
      induction l with
      | nil => rfl
      | cons r l ih => rw [List.map_cons, List.flatten_cons, List.length_append, ih, List.length_cons]; simp only [List.length_cons, List.length_nil]; omega
    show ((univ n).map _).flatten.length = _
    rw [key, univ_len n]
    omega
theorem univ_mem : ∀ {n : Nat} {s : List Int}, s.length = n → (∀ c ∈ s, 0 ≤ c ∧ c ≤ 4) → s ∈ univ n
  | 0, s, h, _ => by rw [List.eq_nil_of_length_eq_zero h]; exact List.mem_singleton.mpr rfl
  | n + 1, [], h, _ => by cases h
  | n + 1, c :: s, h, hc => by
    have ih := univ_mem (n := n) (s := s) (Nat.succ.inj h) fun x hx => hc x (List.mem_cons_of_mem _ hx)
    have b := hc c (List.mem_cons_self ..)
    refine List.mem_flatten.mpr ⟨_, List.mem_map.mpr ⟨s, ih, rfl⟩, ?_⟩
    have e : c = 0 ∨ c = 1 ∨ c = 2 ∨ c = 3 ∨ c = 4 := by omega
    rcases e with rfl | rfl | rfl | rfl | rfl <;> simp
/-! ### stands -/
structure StOk (p : Kd) (s : List Int) : Prop where
  len : s.length = p.1.toNat
  cap : ∀ c ∈ s, 0 ≤ c ∧ c ≤ 4
section
variable {p : Kd}
theorem begin_ok : StOk p (begin_ p) := ⟨begin_len p, fun c hc => by rw [begin_rep] at hc; have := (List.mem_replicate.mp hc).2; omega⟩
theorem caps_ok (h : LotsOk p.1 p.2) {c : Int} (hc : c ∈ capsOf p) : 0 ≤ c ∧ c ≤ 4 := by
  obtain ⟨k, _, rfl⟩ := List.mem_map.mp hc
  rcases List.mem_append.mp (maxL_mem0 (xs := p.2.map (fun l => l.getD k.toNat 0) ++ [0]) (by simp)) with z | z
  · obtain ⟨l, hl, e⟩ := List.mem_map.mp z
    rw [← e]
    rw [List.getD_eq_getElem?_getD]
    cases g : l[k.toNat]? with
    | none => exact ⟨Int.le_refl _, by decide⟩
    | some x => exact (h.ok l hl).cap x (List.mem_of_getElem? g)
  · rw [List.mem_singleton.mp z]; decide
theorem step_ok (h : LotsOk p.1 p.2) {s : List Int} {k : Int} (hs : StOk p s) (h0 : 0 ≤ k) (h1 : k < p.1) : StOk p (stepK p s k).2 := by
  refine ⟨stepK_len hs.len h0 h1, ?_⟩
  unfold stepK
  split
  · exact hs.cap
  · intro c hc
    obtain ⟨q, hq, rfl⟩ := List.mem_map.mp hc
    have b2 := caps_ok h (List.of_mem_zip hq).2
    have b1 : 0 ≤ q.1 := by
      have hm := (List.of_mem_zip hq).1
      have hk : k < s.length := by rw [hs.len]; have := h.lo; omega
      rw [withOne_set h0 hk] at hm
      rcases List.mem_or_eq_of_mem_set hm with z | z
      · exact (hs.cap _ z).1
      · rw [z, List.getD_eq_getElem?_getD]
        cases g : s[k.toNat]? with
        | none => exact (by decide)
        | some x => have := (hs.cap x (List.mem_of_getElem? g)).1; show 0 ≤ x + 1; omega
    split <;> omega
theorem runK_app (s : List Int) (r1 r2 : List Int) : runK p s (r1 ++ r2) = ((runK p s r1).1 ++ (runK p (runK p s r1).2 r2).1, (runK p (runK p s r1).2 r2).2) := by
  refine snoc_ind (P := fun r2 => runK p s (r1 ++ r2) = ((runK p s r1).1 ++ (runK p (runK p s r1).2 r2).1, (runK p (runK p s r1).2 r2).2)) ?_ (fun r2 k ih => ?_) r2
  · rw [List.append_nil]
    show _ = ((runK p s r1).1 ++ [], (runK p s r1).2)
    rw [List.append_nil]
  · rw [← List.append_assoc, runK_snoc, ih, runK_snoc]
    simp only [List.append_assoc]
end
/-! ### the search -/
structure Srch (p : Kd) (fs : Sts) : Prop where
  nd : (fs.map Prod.fst).Nodup
  ok : ∀ q ∈ fs, StOk p q.1 ∧ (∀ k ∈ q.2, 0 ≤ k ∧ k < p.1) ∧ (runK p (begin_ p) q.2).2 = q.1
  short : ∀ (i : Nat) (q : List Int × List Int), fs[i]? = some q → q.2.length ≤ i
  first : begin_ p ∈ fs.map Prod.fst
section
variable {p : Kd}
theorem Srch.few {fs : Sts} (h : Srch p fs) (hp : LotsOk p.1 p.2) : fs.length ≤ 125 := by
  have q := nodup_le (m := univ p.1.toNat) h.nd fun s hs => by
    obtain ⟨x, hx, rfl⟩ := List.mem_map.mp hs
    exact univ_mem (h.ok x hx).1.len (h.ok x hx).1.cap
  rw [univ_len, List.length_map] at q
  have lo := hp.lo
  have hi := hp.hi
  have e : p.1.toNat = 1 ∨ p.1.toNat = 2 ∨ p.1.toNat = 3 := by omega
  rcases e with e | e | e <;> rw [e] at q <;> omega
theorem good_start : Srch p [(begin_ p, [])] where
  nd := by simp
  ok := fun q hq => by rw [List.mem_singleton.mp hq]; exact ⟨begin_ok, fun _ h => (nomatch h), rfl⟩
  short := fun i q h => by
    cases i with
    | zero => cases h; exact Nat.le_refl _
    | succ i => cases h
  first := by simp
theorem try_pre (q : List Int × List Int) (fs : Sts) (k : Int) : fs <+: tryK p q fs k := by
  unfold tryK
  split
  · exact List.prefix_refl _
  · exact List.prefix_append _ _
theorem try_in (q : List Int × List Int) (fs : Sts) (k : Int) : (stepK p q.1 k).2 ∈ (tryK p q fs k).map Prod.fst := by
  unfold tryK
  split
  · assumption
  · simp
theorem try_good (hp : LotsOk p.1 p.2) {q : List Int × List Int} {fs : Sts} {i : Nat} {k : Int} (h : Srch p fs) (hi : fs[i]? = some q) (h0 : 0 ≤ k) (h1 : k < p.1) : Srch p (tryK p q fs k) := by
  have hq := h.ok q (List.mem_of_getElem? hi)
  have lt : i < fs.length := (List.getElem?_eq_some_iff.mp hi).1
  have sh := h.short i q hi
  unfold tryK
  split
  · exact h
  · rename_i hn
    refine ⟨?_, fun x hx => ?_, fun j x hj => ?_, ?_⟩
    · rw [List.map_append]
      refine List.nodup_append.mpr ⟨h.nd, by simp, fun a ha b hb e => hn ?_⟩
      have hb' : b = (stepK p q.1 k).2 := by simpa using hb
      rw [← hb', ← e]
      exact ha
    · rcases List.mem_append.mp hx with z | z
      · exact h.ok x z
      · rw [List.mem_singleton.mp z]
        refine ⟨step_ok hp hq.1 h0 h1, fun c hc => ?_, ?_⟩
        · rcases List.mem_append.mp hc with w | w
          · exact hq.2.1 c w
          · rw [List.mem_singleton.mp w]; exact ⟨h0, h1⟩
        · show (runK p (begin_ p) (q.2 ++ [k])).2 = _
          rw [runK_snoc, hq.2.2]
    · by_cases hj' : j < fs.length
      · rw [List.getElem?_append_left hj'] at hj
        exact h.short j x hj
      · rw [List.getElem?_append_right (by omega)] at hj
        have e : j - fs.length = 0 := by
          cases e : j - fs.length with
          | zero => rfl
          | succ n => rw [e] at hj; cases hj
        rw [e] at hj
        cases hj
        show (q.2 ++ [k]).length ≤ j
        rw [List.length_append, List.length_singleton]
        omega
    · rw [List.map_append]
      exact List.mem_append_left _ h.first
theorem pre_get {fs gs : Sts} {i : Nat} {q : List Int × List Int} (h : fs <+: gs) (hi : fs[i]? = some q) : gs[i]? = some q := by
  obtain ⟨m, rfl⟩ := h
  rw [List.getElem?_append_left (List.getElem?_eq_some_iff.mp hi).1]
  exact hi
theorem pre_mem {fs gs : Sts} {s : List Int} (h : fs <+: gs) (hs : s ∈ fs.map Prod.fst) : s ∈ gs.map Prod.fst := by
  obtain ⟨m, rfl⟩ := h
  rw [List.map_append]
  exact List.mem_append_left _ hs
theorem fold_good (hp : LotsOk p.1 p.2) {q : List Int × List Int} {i : Nat} : ∀ (ks : List Int) {fs : Sts}, (∀ k ∈ ks, 0 ≤ k ∧ k < p.1) → Srch p fs → fs[i]? = some q →
    Srch p (ks.foldl (tryK p q) fs) ∧ fs <+: ks.foldl (tryK p q) fs ∧ ∀ k ∈ ks, (stepK p q.1 k).2 ∈ (ks.foldl (tryK p q) fs).map Prod.fst
  | [], fs, _, h, _ => ⟨h, List.prefix_refl _, fun _ h => (nomatch h)⟩
  | k :: ks, fs, hk, h, hi => by
    have b := hk k (List.mem_cons_self ..)
    have g := try_good hp h hi b.1 b.2
    obtain ⟨g1, g2, g3⟩ := fold_good hp ks (fun x hx => hk x (List.mem_cons_of_mem _ hx)) g (pre_get (try_pre q fs k) hi)
    refine ⟨g1, (try_pre q fs k).trans g2, fun x hx => ?_⟩
    rcases List.mem_cons.mp hx with e | hx
    · rw [e]
      exact pre_mem g2 (try_in q fs k)
    · exact g3 x hx
def Closed (p : Kd) (i : Nat) (fs : Sts) : Prop := ∀ j q, j < i → fs[j]? = some q → ∀ k, 0 ≤ k → k < p.1 → (stepK p q.1 k).2 ∈ fs.map Prod.fst
theorem rng_in {n k : Int} (h0 : 0 ≤ k) (h1 : k < n) : k ∈ rng n := by
  unfold rng
  refine List.mem_map.mpr ⟨k.toNat, List.mem_range.mpr (by omega), ?_⟩
  show ((k.toNat : Nat) : Int) = k
  omega
theorem turn_good (hp : LotsOk p.1 p.2) {q : List Int × List Int} {fs : Sts} {i : Nat} (h : Srch p fs) (hi : fs[i]? = some q) (c : Closed p i fs) : Srch p (turnK p q fs) ∧ fs <+: turnK p q fs ∧ Closed p (i + 1) (turnK p q fs) := by
  obtain ⟨g1, g2, g3⟩ := fold_good hp (rng p.1) (fun k hk => mem_rng hk) h hi
  refine ⟨g1, g2, fun j x hj hx k h0 h1 => ?_⟩
  have hlt : j < fs.length := by have := (List.getElem?_eq_some_iff.mp hi).1; omega
  have ex : fs[j]? = some x := by
    obtain ⟨m, e⟩ := g2
    have hx' : ((rng p.1).foldl (tryK p q) fs)[j]? = some x := hx
    rw [← e, List.getElem?_append_left hlt] at hx'
    exact hx'
  by_cases hji : j < i
  · exact pre_mem g2 (c j x hji ex k h0 h1)
  · have e : j = i := by omega
    rw [e, hi] at ex
    cases ex
    exact g3 k (rng_in h0 h1)
theorem bfs_good (hp : LotsOk p.1 p.2) : ∀ (n i : Nat) {fs : Sts}, Srch p fs → i ≤ fs.length → Closed p i fs → 126 ≤ n + i → Srch p (bfsK p n i fs) ∧ Closed p (bfsK p n i fs).length (bfsK p n i fs)
  | 0, i, fs, h, hi, _, hn => by have := h.few hp; omega
  | n + 1, i, fs, h, hi, c, hn => by
    unfold bfsK
    cases e : fs[i]? with
    | none =>
      have : fs.length ≤ i := List.getElem?_eq_none_iff.mp e
      have ei : i = fs.length := by omega
      exact ⟨h, ei ▸ c⟩
    | some q =>
      obtain ⟨g1, g2, g3⟩ := turn_good hp h e c
      have l1 := g2.length_le
      have l2 := (List.getElem?_eq_some_iff.mp e).1
      exact bfs_good hp n (i + 1) g1 (by omega) g3 (by omega)
theorem all_good (hp : LotsOk p.1 p.2) : Srch p (allStates p) ∧ ∀ q ∈ allStates p, ∀ k, 0 ≤ k → k < p.1 → (stepK p q.1 k).2 ∈ (allStates p).map Prod.fst := by
  obtain ⟨g, c⟩ := bfs_good hp 126 0 (good_start (p := p)) (Nat.zero_le _) (fun j q h => absurd h (Nat.not_lt_zero _)) (by omega)
  rw [← allStates_is] at g c
  refine ⟨g, fun q hq k h0 h1 => ?_⟩
  obtain ⟨i, hi, e⟩ := List.getElem_of_mem hq
  have hq' : (allStates p)[i]? = some q := by rw [List.getElem?_eq_getElem hi, e]
  exact c i q hi hq' k h0 h1
theorem reached (hp : LotsOk p.1 p.2) {row : List Int} (hr : ∀ k ∈ row, 0 ≤ k ∧ k < p.1) : (runK p (begin_ p) row).2 ∈ (allStates p).map Prod.fst := by
  obtain ⟨g, c⟩ := all_good hp
  revert hr
  refine snoc_ind (P := fun row => (∀ k ∈ row, 0 ≤ k ∧ k < p.1) → (runK p (begin_ p) row).2 ∈ (allStates p).map Prod.fst) (fun _ => g.first) (fun row k ih hr => ?_) row
  rw [runK_snoc]
  obtain ⟨q, hq, e⟩ := List.mem_map.mp (ih fun x hx => hr x (List.mem_append_left _ hx))
  have b := hr k (by simp)
  rw [← e]
  exact c q hq k b.1 b.2
end
end KK

/-! two neighbours exchanged: where they fare otherwise, and where never -/
namespace KK
open PySem PySem.Spec PyProof.Rows L2 RZ DL
def inK (p : Kd) (s : List Int) (k : Int) : Bool := (stepK p s k).1
def onK (p : Kd) (s : List Int) (k : Int) : List Int := (stepK p s k).2
def alikeK (p : Kd) (s : List Int) (a b : Int) : Bool := decide ((runK p s [a, b]).1 = (runK p s [b, a]).1.reverse)
def firstPass (p : Kd) (a b : Int) : Option (List Int) := ((allStates p).find? fun q => !alikeK p q.1 a b).map Prod.snd
/-- whether no lot tells both -/
def freeK (lots : List (List Int)) (a b : Int) : Bool := !(lots.map fun lot => decide (0 < lot.getD a.toNat 0) && decide (0 < lot.getD b.toNat 0)).any id
section
variable {p : Kd} {s : List Int} {a b : Int}
theorem run_two (s : List Int) (a b : Int) : (runK p s [a, b]) = ([inK p s a, inK p (onK p s a) b], onK p (onK p s a) b) := rfl
theorem alike_iff : alikeK p s a b = true ↔ inK p s a = inK p (onK p s b) a ∧ inK p (onK p s a) b = inK p s b := by
  unfold alikeK
  rw [decide_eq_true_iff, run_two, run_two]
  simp
theorem alike_symm : alikeK p s a b = alikeK p s b a := by
  rw [Bool.eq_iff_iff, alike_iff, alike_iff]
  exact ⟨fun h => ⟨h.2.symm, h.1.symm⟩, fun h => ⟨h.2.symm, h.1.symm⟩⟩
theorem firstPass_symm : firstPass p a b = firstPass p b a := by
  unfold firstPass
  congr 2
  funext q
  rw [alike_symm]
/-! ### by places -/
def one (k : Int) (i : Nat) : Int := if (i : Int) = k then 1 else 0
theorem one_bd (k : Int) (i : Nat) : 0 ≤ one k i ∧ one k i ≤ 1 := by unfold one; split <;> decide
theorem one_at (k : Int) (h : 0 ≤ k) : one k k.toNat = 1 := by unfold one; rw [if_pos (Int.toNat_of_nonneg h)]
theorem one_off {k j : Int} (hj : 0 ≤ j) (h : k ≠ j) : one k j.toNat = 0 := by unfold one; rw [if_neg (by rw [Int.toNat_of_nonneg hj]; exact fun z => h z.symm)]
/-- some lot is at most f -/
def outA (p : Kd) (f : Nat → Int) : Prop := ∃ l ∈ p.2, ∀ i, i < p.1.toNat → l.getD i 0 ≤ f i
theorem most_iff {n : Nat} : ∀ {l c : List Int}, l.length = n → c.length = n → (isAtMost l c = true ↔ ∀ i, i < n → l.getD i 0 ≤ c.getD i 0) := fun {l c} hl hc => by
  unfold isAtMost
  rw [List.all_map, List.all_eq_true]
  constructor
  · intro h i hi
    have hz : i < (l.zip c).length := by rw [List.length_zip]; omega
    have q := h _ (List.getElem_mem hz)
    rw [List.getElem_zip] at q
    have q' : l[i] ≤ c[i] := of_decide_eq_true q
    rw [List.getD_eq_getElem?_getD, List.getD_eq_getElem?_getD, List.getElem?_eq_getElem (by omega), List.getElem?_eq_getElem (by omega)]
    exact q'
  · intro h x hx
    obtain ⟨i, hi, e⟩ := List.getElem_of_mem hx
    have hz : i < l.length ∧ i < c.length := by rw [List.length_zip] at hi; omega
    have q := h i (by omega)
    rw [List.getD_eq_getElem?_getD, List.getD_eq_getElem?_getD, List.getElem?_eq_getElem hz.1, List.getElem?_eq_getElem hz.2] at q
    rw [← e, List.getElem_zip]
    exact decide_eq_true q
theorem with_get {k : Int} (h0 : 0 ≤ k) (h1 : k < s.length) (i : Nat) : i < s.length → (withOne s k).getD i 0 = s.getD i 0 + one k i := fun hi => by
  rw [withOne_set h0 h1, getD_set]
  unfold one
  by_cases e : (i : Int) = k
  · have e' : k.toNat = i := by omega
    rw [if_pos ⟨e', by omega⟩, if_pos e, e']
  · rw [if_neg (fun z => e (by omega)), if_neg e, Int.add_zero]
theorem in_iff (hp : LotsOk p.1 p.2) (hs : s.length = p.1.toNat) {k : Int} (h0 : 0 ≤ k) (h1 : k < p.1) : inK p s k = true ↔ ¬ outA p fun i => s.getD i 0 + one k i := by
  have hk : k < s.length := by rw [hs]; have := hp.lo; omega
  have wl : (withOne s k).length = p.1.toNat := by rw [withOne_set h0 hk, List.length_set, hs]
  have key : (p.2.map fun l => isAtMost l (withOne s k)).any id = true ↔ outA p fun i => s.getD i 0 + one k i := by
    rw [List.any_map, List.any_eq_true]
    constructor
    · rintro ⟨l, hl, h⟩
      refine ⟨l, hl, fun i hi => ?_⟩
      show l.getD i 0 ≤ s.getD i 0 + one k i
      rw [← with_get h0 hk i (by omega)]
      exact (most_iff (n := p.1.toNat) (by have := (hp.ok l hl).len; omega) wl).mp h i hi
    · rintro ⟨l, hl, h⟩
      refine ⟨l, hl, (most_iff (n := p.1.toNat) (by have := (hp.ok l hl).len; omega) wl).mpr fun i hi => ?_⟩
      rw [with_get h0 hk i (by omega)]
      exact h i hi
  unfold inK stepK
  by_cases h : (p.2.map fun l => isAtMost l (withOne s k)).any id = true
  · rw [if_pos h]
    exact ⟨fun z => (nomatch z), fun z => absurd (key.mp h) z⟩
  · rw [if_neg h]
    exact ⟨fun _ z => h (key.mpr z), fun _ => rfl⟩
theorem on_out {k : Int} (h : inK p s k = false) : onK p s k = s := by
  unfold inK stepK at h
  unfold onK stepK
  split at h
  · rename_i g; rw [if_pos g]
  · cases h
theorem on_get (hp : LotsOk p.1 p.2) (hs : s.length = p.1.toNat) {k : Int} (h0 : 0 ≤ k) (h1 : k < p.1) (h : inK p s k = true) (i : Nat) (hi : i < p.1.toNat) :
    (onK p s k).getD i 0 = if (capsOf p).getD i 0 < s.getD i 0 + one k i then (capsOf p).getD i 0 else s.getD i 0 + one k i := by
  have hk : k < s.length := by rw [hs]; have := hp.lo; omega
  have wl : (withOne s k).length = p.1.toNat := by rw [withOne_set h0 hk, List.length_set, hs]
  unfold inK stepK at h
  unfold onK stepK
  split at h
  · cases h
  · rename_i g
    rw [if_neg g]
    show (capL (capsOf p) (withOne s k)).getD i 0 = _
    rw [capL_get (by rw [wl, capsOf_len]) (by omega), with_get h0 hk i (by omega)]
theorem on_len (hp : LotsOk p.1 p.2) (hs : s.length = p.1.toNat) {k : Int} (h0 : 0 ≤ k) (h1 : k < p.1) : (onK p s k).length = p.1.toNat := stepK_len hs h0 h1
theorem lot_cap (hp : LotsOk p.1 p.2) {l : List Int} (hl : l ∈ p.2) {i : Nat} (hi : i < p.1.toNat) : l.getD i 0 ≤ (capsOf p).getD i 0 := by
  have e : (rng p.1)[i]? = some (i : Int) := by unfold rng; simp [hi]
  unfold capsOf
  rw [List.getD_eq_getElem?_getD (l := List.map _ _), List.getElem?_map, e]
  exact maxL_le (List.mem_cons_of_mem _ (List.mem_append_left _ (List.mem_map.mpr ⟨l, hl, rfl⟩)))
/-- capped counts bar just as the whole ones -/
theorem out_cap (hp : LotsOk p.1 p.2) {f g : Nat → Int} {k : Int} (h : ∀ i, i < p.1.toNat → f i = if (capsOf p).getD i 0 < g i then (capsOf p).getD i 0 else g i) :
    outA p (fun i => f i + one k i) ↔ outA p fun i => g i + one k i := by
  constructor
  · rintro ⟨l, hl, q⟩
    refine ⟨l, hl, fun i hi => ?_⟩
    have := q i hi
    have := h i hi
    dsimp only at *
    split at this <;> omega
  · rintro ⟨l, hl, q⟩
    refine ⟨l, hl, fun i hi => ?_⟩
    have := q i hi
    have := h i hi
    have := lot_cap hp hl hi
    have := one_bd k i
    dsimp only at *
    split at * <;> omega
theorem getD_nn {l : List Int} (h : ∀ c ∈ l, 0 ≤ c ∧ c ≤ 4) (i : Nat) : 0 ≤ l.getD i 0 := by
  rw [List.getD_eq_getElem?_getD]
  cases g : l[i]? with
  | none => exact Int.le_refl _
  | some x => exact (h x (List.mem_of_getElem? g)).1
/-- where no lot tells both, the one's coming is nothing to the other -/
theorem free_in (hp : LotsOk p.1 p.2) (hs : StOk p s) (a0 : 0 ≤ a) (a1 : a < p.1) (b0 : 0 ≤ b) (b1 : b < p.1) (hf : freeK p.2 a b = true) : inK p (onK p s b) a = inK p s a := by
  by_cases hb : inK p s b = true
  · rw [Bool.eq_iff_iff, in_iff hp (on_len hp hs.len b0 b1) a0 a1, in_iff hp hs.len a0 a1]
    refine not_congr ((out_cap hp fun i hi => on_get hp hs.len b0 b1 hb i hi).trans ⟨?_, ?_⟩)
    · rintro ⟨l, hl, q⟩
      have nb : ¬ outA p fun i => s.getD i 0 + one b i := (in_iff hp hs.len b0 b1).mp hb
      have apart : ¬ (0 < l.getD a.toNat 0 ∧ 0 < l.getD b.toNat 0) := fun z => by
        unfold freeK at hf
        rw [Bool.not_eq_true', List.any_map, List.any_eq_false] at hf
        exact hf l hl (by show (decide _ && decide _) = true; rw [decide_eq_true z.1, decide_eq_true z.2]; rfl)
      have nn := getD_nn (hp.ok l hl).cap
      have ns := getD_nn hs.cap
      by_cases hlb : 0 < l.getD b.toNat 0
      · refine absurd ⟨l, hl, fun i hi => ?_⟩ nb
        have h1 := q i hi
        have h2 := ns i
        have h3 := one_bd b i
        dsimp only at *
        by_cases e : (i : Int) = a
        · have ei : i = a.toNat := by omega
          have h4 : l.getD i 0 ≤ 0 := by rw [ei]; have := nn a.toNat; omega
          omega
        · have : one a i = 0 := by unfold one; rw [if_neg e]
          omega
      · refine ⟨l, hl, fun i hi => ?_⟩
        have h1 := q i hi
        have h2 := ns i
        have h3 := one_bd a i
        dsimp only at *
        by_cases e : (i : Int) = b
        · have ei : i = b.toNat := by omega
          have h4 : l.getD i 0 ≤ 0 := by rw [ei]; omega
          omega
        · have : one b i = 0 := by unfold one; rw [if_neg e]
          omega
    · rintro ⟨l, hl, q⟩
      exact ⟨l, hl, fun i hi => by have := q i hi; have := one_bd b i; dsimp only at *; omega⟩
  · rw [on_out (by simpa using hb)]
theorem freeK_symm {lots : List (List Int)} : freeK lots a b = freeK lots b a := by
  unfold freeK
  congr 3
  funext lot
  exact Bool.and_comm ..
theorem free_alike (hp : LotsOk p.1 p.2) (hs : StOk p s) (a0 : 0 ≤ a) (a1 : a < p.1) (b0 : 0 ≤ b) (b1 : b < p.1) (hf : freeK p.2 a b = true) : alikeK p s a b = true :=
  alike_iff.mpr ⟨(free_in hp hs a0 a1 b0 b1 hf).symm, free_in hp hs b0 b1 a0 a1 (freeK_symm ▸ hf)⟩
/-! ### a lot that tells both -/
/-- less than a lot somewhere, at most it elsewhere: nobody is barred -/
theorem below_in (hp : LotsOk p.1 p.2) {L : List Int} (hL : L ∈ p.2) {f : Nat → Int} (le : ∀ i, i < p.1.toNat → f i ≤ L.getD i 0) {j : Nat} (hj : j < p.1.toNat) (lt : f j < L.getD j 0) : ¬ outA p f := by
  rintro ⟨l, hl, q⟩
  have ne : l ≠ L := fun e => by have := q j hj; rw [e] at this; omega
  obtain ⟨x, hx, ex⟩ := List.getElem_of_mem hl
  obtain ⟨y, hy, ey⟩ := List.getElem_of_mem hL
  have ll : l.length = p.1.toNat := by have := (hp.ok l hl).len; omega
  have lL : L.length = p.1.toNat := by have := (hp.ok L hL).len; omega
  have most : isAtMost l L = true := (most_iff ll lL).mpr fun i hi => Int.le_trans (q i hi) (le i hi)
  have xy : x ≠ y := fun e => ne (by rw [← ex, ← ey]; simp only [e])
  rcases Nat.lt_or_gt_of_ne xy with h | h
  · have := (hp.anti x y h hy).2
    rw [ex, ey, most] at this
    cases this
  · have := (hp.anti y x h hx).1
    rw [ex, ey, most] at this
    cases this
def cnt (r : List Int) (i : Nat) : Int := ((r.count (i : Int) : Nat) : Int)
theorem cnt_snoc (r : List Int) (k : Int) (i : Nat) : cnt (r ++ [k]) i = cnt r i + one k i := by
  unfold cnt one
  rw [List.count_append, List.count_singleton]
  by_cases e : (i : Int) = k
  · rw [if_pos e, if_pos (by rw [e]; exact beq_self_eq_true k)]; omega
  · rw [if_neg e, if_neg (by rw [beq_iff_eq]; exact fun z => e z.symm)]; omega
theorem cnt_nn (r : List Int) (i : Nat) : 0 ≤ cnt r i := Int.natCast_nonneg _
/-- rows of counts below a lot's: all are let in -/
theorem run_below (hp : LotsOk p.1 p.2) {L : List Int} (hL : L ∈ p.2) {j : Nat} (hj : j < p.1.toNat) (row : List Int) : (∀ k ∈ row, 0 ≤ k ∧ k < p.1) → (∀ i, i < p.1.toNat → cnt row i ≤ L.getD i 0) → cnt row j < L.getD j 0 →
    ∀ i, i < p.1.toNat → (runK p (begin_ p) row).2.getD i 0 = cnt row i := by
  refine snoc_ind (P := fun row => (∀ k ∈ row, 0 ≤ k ∧ k < p.1) → (∀ i, i < p.1.toNat → cnt row i ≤ L.getD i 0) → cnt row j < L.getD j 0 → ∀ i, i < p.1.toNat → (runK p (begin_ p) row).2.getD i 0 = cnt row i) ?_ (fun row k ih => ?_) row
  · intro _ _ _ i hi
    show (begin_ p).getD i 0 = 0
    exact begin_get
  · intro hr le lt i hi
    have hk := hr k (by simp)
    have ih' := ih (fun x hx => hr x (List.mem_append_left _ hx)) (fun i hi => by have := le i hi; rw [cnt_snoc] at this; have := one_bd k i; omega) (by have := one_bd k j; rw [cnt_snoc] at lt; omega)
    have hs := (runK_len (begin_len p) (fun x hx => hr x (List.mem_append_left _ hx))).2
    have isin : inK p (runK p (begin_ p) row).2 k = true := (in_iff hp hs hk.1 hk.2).mpr (fun z => below_in hp hL (f := fun i => cnt (row ++ [k]) i) le hj lt (by
      obtain ⟨l, hl, q⟩ := z
      exact ⟨l, hl, fun i hi => by have := q i hi; show l.getD i 0 ≤ cnt (row ++ [k]) i; rw [cnt_snoc, ← ih' i hi]; exact this⟩))
    rw [runK_snoc]
    show (onK p (runK p (begin_ p) row).2 k).getD i 0 = _
    have h1 := le i hi
    have h2 := lot_cap hp hL hi
    rw [cnt_snoc] at h1
    rw [on_get hp hs hk.1 hk.2 isin i hi, ih' i hi, if_neg (by omega), cnt_snoc]
/-- a row of these counts of the kinds 0, 1, 2 -/
def rowOf (t : Nat → Int) : List Int := List.replicate (t 0).toNat 0 ++ List.replicate (t 1).toNat 1 ++ List.replicate (t 2).toNat 2
theorem rowOf_cnt (t : Nat → Int) (h : ∀ i, 0 ≤ t i) {i : Nat} (hi : i < 3) : cnt (rowOf t) i = t i := by
  have e : i = 0 ∨ i = 1 ∨ i = 2 := by omega
  unfold cnt rowOf
  rw [List.count_append, List.count_append, List.count_replicate, List.count_replicate, List.count_replicate]
  have h0 := h 0
  have h1 := h 1
  have h2 := h 2
  rcases e with rfl | rfl | rfl <;> simp <;> omega
theorem rowOf_mem {t : Nat → Int} {n : Int} (h : ∀ i : Nat, n ≤ (i : Int) → t i = 0) : ∀ k ∈ rowOf t, 0 ≤ k ∧ k < n := by
  intro k hk
  unfold rowOf at hk
  have key : ∀ (j : Nat), k ∈ List.replicate (t j).toNat (j : Int) → 0 ≤ k ∧ k < n := fun j hj => by
    obtain ⟨n0, e⟩ := List.mem_replicate.mp hj
    rw [e]
    by_cases g : n ≤ (j : Int)
    · rw [h j g] at n0; exact absurd rfl n0
    · omega
  rcases List.mem_append.mp hk with hk | hk
  · rcases List.mem_append.mp hk with hk | hk
    · exact key 0 hk
    · exact key 1 hk
  · exact key 2 hk
/-- where some lot tells both, some stand tells them apart -/
theorem not_free (hp : LotsOk p.1 p.2) (a0 : 0 ≤ a) (a1 : a < p.1) (b0 : 0 ≤ b) (b1 : b < p.1) (ab : a ≠ b) (hf : freeK p.2 a b = false) : ∃ row : List Int, (∀ k ∈ row, 0 ≤ k ∧ k < p.1) ∧ alikeK p (runK p (begin_ p) row).2 a b = false := by
  unfold freeK at hf
  rw [Bool.not_eq_false', List.any_map, List.any_eq_true] at hf
  obtain ⟨L, hL, z⟩ := hf
  have z' : (decide (0 < L.getD a.toNat 0) && decide (0 < L.getD b.toNat 0)) = true := z
  rw [Bool.and_eq_true, decide_eq_true_iff, decide_eq_true_iff] at z'
  obtain ⟨La, Lb⟩ := z'
  have lo := hp.lo
  have hi3 := hp.hi
  have nn := getD_nn (hp.ok L hL).cap
  have ha : a.toNat < p.1.toNat := by omega
  have hb : b.toNat < p.1.toNat := by omega
  have oa : one a a.toNat = 1 := one_at a a0
  have ob : one b b.toNat = 1 := one_at b b0
  have oab : one a b.toNat = 0 := one_off b0 ab
  have oba : one b a.toNat = 0 := one_off a0 (Ne.symm ab)
  have t0 : ∀ i, 0 ≤ L.getD i 0 - one a i - one b i := fun i => by
    have h1 := nn i
    by_cases e1 : (i : Int) = a
    · have ei : i = a.toNat := by omega
      rw [ei, oa, oba]; omega
    · by_cases e2 : (i : Int) = b
      · have ei : i = b.toNat := by omega
        rw [ei, oab, ob]; omega
      · have h2 : one a i = 0 := by unfold one; rw [if_neg e1]
        have h3 : one b i = 0 := by unfold one; rw [if_neg e2]
        omega
  have tz : ∀ i : Nat, p.1 ≤ (i : Int) → L.getD i 0 - one a i - one b i = 0 := fun i hi => by
    have hl : L.length ≤ i := by have := (hp.ok L hL).len; omega
    have h1 : L.getD i 0 = 0 := by rw [List.getD_eq_getElem?_getD, List.getElem?_eq_none hl]; rfl
    have h2 : one a i = 0 := by unfold one; rw [if_neg (by omega)]
    have h3 : one b i = 0 := by unfold one; rw [if_neg (by omega)]
    omega
  have cn : ∀ i, i < p.1.toNat → cnt (rowOf fun i => L.getD i 0 - one a i - one b i) i = L.getD i 0 - one a i - one b i := fun i hi => rowOf_cnt _ t0 (by omega)
  have hr := rowOf_mem (n := p.1) (t := fun i => L.getD i 0 - one a i - one b i) tz
  have st := run_below hp hL ha (rowOf fun i => L.getD i 0 - one a i - one b i) hr (fun i hi => by rw [cn i hi]; have := one_bd a i; have := one_bd b i; omega) (by rw [cn _ ha]; omega)
  have hs : (runK p (begin_ p) (rowOf fun i => L.getD i 0 - one a i - one b i)).2.length = p.1.toNat := (runK_len (begin_len p) hr).2
  refine ⟨_, hr, ?_⟩
  have get : ∀ i, i < p.1.toNat → (runK p (begin_ p) (rowOf fun i => L.getD i 0 - one a i - one b i)).2.getD i 0 = L.getD i 0 - one a i - one b i := fun i hi => (st i hi).trans (cn i hi)
  have ina : inK p (runK p (begin_ p) (rowOf fun i => L.getD i 0 - one a i - one b i)).2 a = true := (in_iff hp hs a0 a1).mpr fun ⟨l, hl, q⟩ =>
    below_in hp hL (f := fun i => L.getD i 0 - one b i) (fun i hi => by have := one_bd b i; omega) hb (by show L.getD b.toNat 0 - one b b.toNat < _; omega) ⟨l, hl, fun i hi => by
      have h := q i hi
      have h' : l.getD i 0 ≤ (runK p (begin_ p) (rowOf fun i => L.getD i 0 - one a i - one b i)).2.getD i 0 + one a i := h
      rw [get i hi] at h'
      show l.getD i 0 ≤ L.getD i 0 - one b i
      omega⟩
  have inb : inK p (runK p (begin_ p) (rowOf fun i => L.getD i 0 - one a i - one b i)).2 b = true := (in_iff hp hs b0 b1).mpr fun ⟨l, hl, q⟩ =>
    below_in hp hL (f := fun i => L.getD i 0 - one a i) (fun i hi => by have := one_bd a i; omega) ha (by show L.getD a.toNat 0 - one a a.toNat < _; omega) ⟨l, hl, fun i hi => by
      have h := q i hi
      have h' : l.getD i 0 ≤ (runK p (begin_ p) (rowOf fun i => L.getD i 0 - one a i - one b i)).2.getD i 0 + one b i := h
      rw [get i hi] at h'
      show l.getD i 0 ≤ L.getD i 0 - one a i
      omega⟩
  have outb : inK p (onK p (runK p (begin_ p) (rowOf fun i => L.getD i 0 - one a i - one b i)).2 a) b = false := by
    cases g : inK p (onK p (runK p (begin_ p) (rowOf fun i => L.getD i 0 - one a i - one b i)).2 a) b with
    | false => rfl
    | true =>
      refine absurd ⟨L, hL, fun i hi => ?_⟩ ((in_iff hp (on_len hp hs a0 a1) b0 b1).mp g)
      dsimp only
      rw [on_get hp hs a0 a1 ina i hi, get i hi]
      have h1 := lot_cap hp hL hi
      have h2 := one_bd b i
      split <;> omega
  cases g : alikeK p (runK p (begin_ p) (rowOf fun i => L.getD i 0 - one a i - one b i)).2 a b with
  | false => rfl
  | true =>
    have := (alike_iff.mp g).2
    rw [outb, inb] at this
    cases this
theorem pass_none (hp : LotsOk p.1 p.2) (a0 : 0 ≤ a) (a1 : a < p.1) (b0 : 0 ≤ b) (b1 : b < p.1) (ab : a ≠ b) : (firstPass p a b).isNone = freeK p.2 a b := by
  obtain ⟨g, _⟩ := all_good hp
  unfold firstPass
  rw [Option.isNone_map]
  cases hf : freeK p.2 a b with
  | true =>
    rw [Option.isNone_iff_eq_none, List.find?_eq_none]
    intro q hq
    rw [free_alike hp (g.ok q hq).1 a0 a1 b0 b1 hf]
    exact Bool.false_ne_true
  | false =>
    obtain ⟨row, hr, hal⟩ := not_free hp a0 a1 b0 b1 ab hf
    obtain ⟨q, hq, e⟩ := List.mem_map.mp (reached hp hr)
    cases h : (allStates p).find? fun q => !alikeK p q.1 a b with
    | some _ => rfl
    | none =>
      have := List.find?_eq_none.mp h q hq
      rw [e, hal] at this
      exact absurd rfl this
/-! ### rows with the two exchanged -/
theorem swap_state (hp : LotsOk p.1 p.2) (hs : StOk p s) (a0 : 0 ≤ a) (a1 : a < p.1) (b0 : 0 ≤ b) (b1 : b < p.1) (h : alikeK p s a b = true) : onK p (onK p s a) b = onK p (onK p s b) a := by
  obtain ⟨h1, h2⟩ := alike_iff.mp h
  have la := on_len hp hs.len a0 a1
  have lb := on_len hp hs.len b0 b1
  cases ga : inK p s a with
  | false =>
    rw [ga] at h1
    rw [on_out ga, on_out h1.symm]
  | true =>
    rw [ga] at h1
    cases gb : inK p s b with
    | false =>
      rw [gb] at h2
      rw [on_out gb, on_out h2]
    | true =>
      rw [gb] at h2
      refine ext_getD (by rw [on_len hp la b0 b1, on_len hp lb a0 a1]) fun i hi => ?_
      rw [on_len hp la b0 b1] at hi
      rw [on_get hp la b0 b1 h2 i hi, on_get hp lb a0 a1 h1.symm i hi, on_get hp hs.len a0 a1 ga i hi, on_get hp hs.len b0 b1 gb i hi]
      have := one_bd a i
      have := one_bd b i
      repeat' split
      all_goals omega
theorem entered_app (ahead behind : List Int) : enteredK p (ahead ++ [a, b] ++ behind) = enteredK p ahead ++ ([inK p (runK p (begin_ p) ahead).2 a, inK p (onK p (runK p (begin_ p) ahead).2 a) b] ++ (runK p (onK p (onK p (runK p (begin_ p) ahead).2 a) b) behind).1) := by
  unfold enteredK
  rw [runK_app, runK_app, run_two, List.append_assoc]
theorem entered_len {row : List Int} (hr : ∀ k ∈ row, 0 ≤ k ∧ k < p.1) : (enteredK p row).length = row.length := (runK_len (begin_len p) hr).1
end
end KK

namespace KK
open PySem PySem.Spec PyProof.Rows L2 RZ DL LamX
/-! ### == of a row or None, != of bools -/
instance denO {α : Type} {R : Rel α} {n : Nat} [d : Den R n] : Den (dO (dT R)) (n + 1) where
  den x := match x with
    | none => .none
    | some xs => Den.den (R := dT R) xs
  dp := fun {K I H v x} r s => by
    cases x with
    | none => have e : v = V.non := r; subst e; exact .non
    | some xs => exact Den.dp (R := dT R) r s
  cl x := by
    cases x with
    | none => simp [PyData.canLay0]
    | some xs => exact Den.cl (R := dT R) xs
  dep x := by
    cases x with
    | none => simp [PyData.depth]
    | some xs => exact Den.dep (R := dT R) xs
  inj x y := by
    cases x with
    | none => cases y with
      | none => simp [PyData.eqv]
      | some ys => simp [PyData.eqv, Den.den]
    | some xs => cases y with
      | none => simp [PyData.eqv, Den.den]
      | some ys =>
        rw [Option.some.injEq]
        exact Den.inj (R := dT R) xs ys
theorem e_neB {M : Mode} {σ : L2.St} {I H : Hp} {ta tb : TE} {x y : Bool} (ha : D M ta σ I H dB x) (hb : D M tb σ I H dB y) : D M (tOp rNe ta tb) σ I H dB (!decide (x = y)) := fun I1 H1 e c Q k =>
  ha I1 H1 e c _ fun v I2 H2 e2 c2 r => hb I2 H2 (e.trans e2) c2 _ fun w I3 H3 e3 c3 r3 => by
    have r' : v = V.bl x := r
    have q' : w = V.bl y := r3
    subst r' q'
    refine ⟨rfl, k _ I3 H3 (e2.trans e3) c3 ?_⟩
    show V.bl _ = V.bl _
    congr 2
    exact decide_eq_decide.mpr ⟨fun z => V.bl.inj z, fun z => z ▸ rfl⟩
section
variable {α : Type} {M : Mode} {σ : L2.St} {I H : Hp}
theorem n_asgG {te : TE} {g : TG} {E : Ends} {S : Rel α} {P : α → Prop} {Γ : L2.St → α → Hp → L2.St → Prop} (d : N M te σ I H S P) (hg : Bind g S Γ) (s : DL.Sub I H) (c : M.C I H)
    (k : ∀ σ2 x I1 H1, Ex M.m I H I1 H1 → M.C I1 H1 → P x → Γ σ x I1 σ2 → E.nx σ2 H1) : tAsg te g E σ H := d.use s c fun v x I1 H1 e c1 r p => hg σ I1 H1 v x e.si r _ fun σ2 hσ => k σ2 x I1 H1 e c1 p hσ
theorem nt_not {tt : TT} {P : Bool → Prop} (h : NT M tt σ I H P) : NT M (tNot tt) σ I H (fun b => P (!b)) := fun I1 H1 e c Q k => h I1 H1 e c _ fun b I2 H2 e2 c2 p => k (!b) I2 H2 e2 c2 (by show P (!!b); rw [Bool.not_not]; exact p)
end
section
variable {P : Program} {w : World} {K : PySem.W.Frag} {mg : Str → Option Value} {base : Heap}
instance {C : Addr} : Cl (dKinds C) := ⟨fun ⟨a, dx, b, fs, e, h, l1, l2, r⟩ => ⟨a, dx, b, fs, e, cln_at h (fun _ z => nomatch z), l1, l2, Cl.up r⟩⟩
instance : Cl dY := ⟨fun {I v y} h => by
  cases y with
  | w x => exact ⟨Cl.up h.1, h.2⟩
  | t xs => exact Cl.up (R := dT dW) h⟩
/-- a class of the text, called -/
structure CalM (P : Program) (w : World) (K : PySem.W.Frag) (mg : Str → Option Value) (base : Heap) (k : Nat) (x : Str) (C : Addr) (sp : Sp) : Prop where
  ex : ∃ (f : Addr) (fd : FuncData) (ps : List Str), L2.Mk K C f ∧ FnOk P w K mg base L2.CX0 k f fd ps sp ∧ mg x = some (.ref C) ∧ L2.Binds K fd ps []
theorem pe_mkc {X : Cx} {k j : Nat} {C : Addr} {x : Str} {sp : Sp} {p pos : Pos} {e : Expr} {es : List Expr} {t : TA} (c : CalM X.prog X.w X.K X.mg X.base k x C sp) (hr : Room j X.A) (hk : k + 1 ≤ j) (hg : Gl X x) (ha : PA X (e :: es) t)
    (hdb : (x == ("__debug__" : Str)) = false := by decide) (he : starEach (e :: es) X.env = (false, eval e X.env) :: starEach es X.env := by rfl) (hpl : (backTo pos (starEach es X.env)).any (·.1) = false := by rfl) :
    PE X (.Call (.Name x p) (e :: es) [] pos) (tMake C sp [] L2.E0 t) := by
  obtain ⟨f, fd, ps, M, F, hm, b⟩ := c.ex
  exact pe_make M F (hr.mono hk) hg hm b .nil L2.pass0 ha hdb he hpl
/-- one of some things, of any relation -/
theorem n_someR {α : Type} {R : Rel α} [Mono R] {σ : L2.St} {I H : Hp} {hp c : Addr} {te : TE} {xs : List α} {j : Nat} {E : XK} (hj : σ[j]? = some (some (.ref hp))) (hl : D (HM hp c) te σ I H (dL R) xs) (hne : xs ≠ []) (hs : xs.length < 1000) : N (HM hp c) (tCall sp_law_some [] E (tCons (tVar j) (tCons te tNil))) σ I H R (fun x => x ∈ xs) := fun I1 H1 e cc Q k =>
  ⟨.ref hp, hj, hl I1 H1 e cc _ fun v I2 H2 e2 c2 ⟨a, vs, ev, ha, p⟩ => ⟨hp, c, [v], I2, (vs, ()), rfl, e2.si, c2, ⟨v, [], rfl, ⟨a, vs, ev, ha, by
      have : ∀ l : List V, Paired (dV I2) l l := fun l => by
        induction l with
        | nil => exact .nil
        | cons x l ih => exact .cons rfl ih
      exact this _⟩, rfl⟩, ⟨fun z => hne (by have := Paired.length p; rw [show vs = [] from z] at this; exact List.eq_nil_of_length_eq_zero this.symm), by show vs.length < 1000; rw [Paired.length p]; exact hs⟩, fun v' y I' H' e3 c3 r p2 => by
    obtain ⟨i, hi⟩ := List.mem_iff_getElem?.mp (show y ∈ vs from p2)
    obtain ⟨x, h1, h2⟩ := DL.paired_get p hi
    rw [show v' = y from r]
    exact k y x I' H' (e2.trans e3) c3 (Mono.up h2 e3.ii) (List.mem_of_getElem? h1)⟩⟩
/-- the def by its body, its code object known -/
theorem okc {x qual : Str} {st : Stmt} {f cA : Addr} {fd : FuncData} {N ps : List Str} {k : Nat} {sp : Sp} (F : L2.Fun K x qual st f fd) (hc : fd.code = .ref cA) (S : FnScope N ps (defScope st)) (len : ∀ vs H Q E, sp vs H Q E → vs.length = ps.length)
    (hbody : ∀ (A : Around) (outer : List Env) (s : Shared) (H : Hp) (vs : List V) (Q : VK) (E : XK), Room k (A.deeper (envOfC qual (defScope st) s.heap.objs.size f (.ref cA))) → sp vs H Q E →
      ∃ t, PSs (cxOf L2.CX0 P w K mg base N qual (defScope st) f (.ref cA) A outer s H E).nox (defBody st) t ∧ t { nx := fun _ H' => Q .non H', rt := Q } (L2.start N vs) H) : FnOk P w K mg base L2.CX0 (k + 1) f fd ps sp := by
  obtain ⟨oc, od, kV, doc, pm, an, cdv, ct, osl, ef, lk, hcd⟩ := F.ex
  subst ef
  have hc : cdv = .ref cA := hc
  subst hc
  refine fn_of lk hcd S len fun A outer s H vs Q E room pre => ?_
  obtain ⟨t, h, q⟩ := hbody A outer s H vs Q E room pre
  exact ⟨t, h.nox, q⟩
end
end KK

/-! the defs that search all stands -/
namespace KK
open PySem PySem.Spec PyProof.Rows L2 RZ DL
/-- a kind of p -/
def KindOk (p : Kd) (k : Int) : Prop := 0 ≤ k ∧ k < p.1
section
variable {P : Program} {w : World} {K : PySem.W.Frag} {mg : Str → Option Value} {base : Heap}
/-! ### all_states -/
abbrev dSt : Rel (List Int × List Int) := dP (dT dI) (dT dI)
def known (fs : Sts) : List (List L2.Key × V) := fs.map fun q => (kI q.1, V.bl true)
theorem known_has {fs : Sts} {s : List Int} : (valV (known fs) (kI s)).isSome = decide (s ∈ fs.map Prod.fst) := by
  rw [Bool.eq_iff_iff, decide_eq_true_iff, ← valV_any, List.any_eq_true]
  constructor
  · rintro ⟨x, hx, e⟩
    obtain ⟨q, hq, rfl⟩ := List.mem_map.mp hx
    exact List.mem_map.mpr ⟨q, hq, kI_inj (of_decide_eq_true e)⟩
  · intro h
    obtain ⟨q, hq, rfl⟩ := List.mem_map.mp h
    exact ⟨_, List.mem_map.mpr ⟨q, hq, rfl⟩, decide_eq_true rfl⟩
theorem known_snoc (fs : Sts) (q : List Int × List Int) : known (fs ++ [q]) = known fs ++ [(kI q.1, V.bl true)] := by unfold known; rw [List.map_append]; rfl
theorem known_put {fs : Sts} {s r : List Int} (h : s ∉ fs.map Prod.fst) : putK (known fs) (kI s) (V.bl true) = known (fs ++ [(s, r)]) := by
  rw [known_snoc, putK_new]
  cases g : valV (known fs) (kI s) with
  | none => rfl
  | some v =>
    have z := known_has (fs := fs) (s := s)
    rw [g, decide_eq_false h] at z
    cases z
theorem known_len (fs : Sts) : (known fs).length = fs.length := by unfold known; rw [List.length_map]
theorem bfs_end {p : Kd} {n i : Nat} {fs : Sts} (h : fs.length ≤ i) : bfsK p n i fs = fs := by
  cases n with
  | zero => rfl
  | succ n => unfold bfsK; rw [List.getElem?_eq_none h]
theorem tryK_new {p : Kd} {q : List Int × List Int} {fs : Sts} {k : Int} (h : (stepK p q.1 k).2 ∉ fs.map Prod.fst) : tryK p q fs k = fs ++ [((stepK p q.1 k).2, q.2 ++ [k])] := if_neg h
theorem tryK_old {p : Kd} {q : List Int × List Int} {fs : Sts} {k : Int} (h : (stepK p q.1 k).2 ∈ fs.map Prod.fst) : tryK p q fs k = fs := if_pos h
abbrev sp_all_states (C : Addr) : Sp := DL.sp (aCons (dKinds C) aNil) (fun x => LotsOk x.1.1 x.1.2) (dL dSt) (fun x => allStates x.1)
abbrev s_all_states : Stmt := topS 27
abbrev N_all_states : List Str := ["kinds", "found", "known", "done", "state", "row", "kind", "later"]
theorem sc_all_states : FnScope N_all_states ["kinds"] (defScope s_all_states) := ⟨rfl, rfl, rfl, by decide +kernel, rfl, by decide +kernel, by decide +kernel⟩
theorem mk_all_states {C f : Addr} {fd : FuncData} (F : Df K mg "all_states" s_all_states ["kinds"] f fd) (T : Txt mg) (KC : KindsC K C) (c_begin : Cal P w K mg base 1 "begin" (sp_begin C)) (c_step : Cal P w K mg base 3 "step" (sp_step C)) : Cal P w K mg base 4 "all_states" (sp_all_states C) := by
  refine Cal.of F (F.fn.ok sc_all_states (fun vs H Q E h => ?_) (fun cdv A outer s H vs Q E hr h => ?_))
  · obtain ⟨I, x, si, ⟨v0, _, rfl, r0, rfl⟩, hp, k⟩ := h
    rfl
  · obtain ⟨I, ⟨p, ⟨⟩⟩, si, ⟨v0, _, rfl, r0, rfl⟩, hp, k⟩ := h
    replace hp : LotsOk p.1 p.2 := hp
    dsimp only at *
    refine ⟨_, (pss_cons (ps_set (i := 1) sc_all_states.nd rfl (Or.inl rfl) (pe_lst (pa_cons (pe_tup (pa_cons (pe_c c_begin hr (by decide) (by rfl) (pa_cons (pv 0) pa_nil)) (pa_cons (pe_tup pa_nil) pa_nil))) pa_nil)))
    (pss_cons (ps_set (i := 2) sc_all_states.nd rfl (Or.inl rfl) (pe_disp1 (units1 hr.units) (pe_c c_begin hr (by decide) (by rfl) (pa_cons (pv 0) pa_nil)) pe_bl))
    (pss_cons (ps_set (i := 3) sc_all_states.nd rfl (Or.inl rfl) pe_int)
    (pss_cons (ps_while PassesOwn.never (pt_cmpR op_lt (pv 3) (pe_callB (klen K) (by rfl) T.b_len PySem.boot_len (pa_cons (pv 1) pa_nil)) (nomark _))
    (pss_cons (ps_asg (pe_ix (kixL K) (pv 1) (pv 3) (fun _ _ => rfl)) (kgtup K rfl (pgs_cons (pg_name (i := 4) sc_all_states.nd rfl (Or.inl rfl)) (pgs_cons (pg_name (i := 5) sc_all_states.nd rfl (Or.inl rfl)) pgs_nil))))
    (pss_cons (ps_aug (i := 3) sc_all_states.nd rfl (Or.inl rfl) pe_int ip_add)
    (pss_one (ps_for PassesOwn.never rfl (pi_range1 rfl T.b_range (pa_cons (kfld K (pv 0)) pa_nil)) (pg_name (i := 6) sc_all_states.nd rfl (Or.inl rfl))
    (pss_cons (ps_set (i := 7) sc_all_states.nd rfl (Or.inl rfl) (pe_ix (kixT K) (pe_c c_step hr (by decide) (by rfl) (pa_cons (pv 0) (pa_cons (pv 4) (pa_cons (pv 6) pa_nil)))) pe_int (fun _ _ => rfl)))
    (pss_one (ps_if (pt_cmp (pc_dnotin (units1 hr.units) (pv 7) (pv 2))) (pss_cons (ps_dput (units1 hr.units) (pv 2) (pv 7) pe_bl rfl)
    (pss_one (ps_expr (pe_bm PySem.F.plainAttrs_list PySem.F.slot_list_append PySem.F.type_list_append mt_append (pv 1) (pa_cons (pe_tup (pa_cons (pv 7) (pa_cons (pe_op (kcatT K) (pv 5) (pe_tup (pa_cons (pv 6) pa_nil))) pa_nil))) pa_nil))))) pss_nil))))))))
    (pss_one (ps_ret (pv 1))))))), ?_⟩
    have kok : KOk p := hp.kok
    refine s_asgF (M := M0) (R := dSt) (xs := [(begin_ p, [])]) (f_lst (l_cons (e_pair (e_call (a_cons (e_var r0) a_nil) kok) (e_tup l_nil)) l_nil)) si True.intro (fun a vs0 I1 H1 e1 c1 ha hI1 hH1 pv0 => ?_)
    refine s_asgD (M := M0) (R := dB) (x := true) (e_call (a_cons (e_var (Mono.up r0 e1.ii)) a_nil) kok) e_bl e1.si True.intro (fun d u I2 H2 e2 c2 hd hI2 hH2 ru => ?_)
    have eu : u = V.bl true := ru
    subst eu
    have ad : a ≠ d := fun z => by rw [z, hd] at hH1; cases hH1
    dsimp only [tSeq]
    refine s_asg (M := M0) (R := dI) (x := 0) e_int e2.si True.intro (fun v3 I3 H3 e3 c3 q3 => ?_)
    have e13 := (e1.trans e2).trans e3
    have e23 := e2.trans e3
    refine s_while (M := M0) e3.si True.intro (fun n σ' J G => Ex0 I H J G ∧ ∃ vs fs x4 x5 x6 x7, ∃ i : Nat, σ' = [some v0, some (.ref a), some (.ref d), some (.int i), x4, x5, x6, x7] ∧ J a = none ∧ G a = some (.lst vs) ∧ J d = none ∧ G d = some (.dT (known fs)) ∧ Paired (dSt J) vs fs ∧
      Srch p fs ∧ i ≤ fs.length ∧ n + i = 126 ∧ bfsK p n i fs = allStates p) (n0 := 126) ?_ ?_
    · have ev : v3 = V.int 0 := q3
      subst ev
      exact ⟨e13, vs0, [(begin_ p, [])], none, none, none, none, 0, rfl, e23.out hI1 (by rw [hH1]; simp), e23.kp _ _ (fun z => z) hH1, e3.out hI2 (by rw [hH2]; simp), e3.kp _ _ (fun z => z) hH2, paired_up pv0 e23.ii, good_start, Nat.zero_le _, rfl, (allStates_is p).symm⟩
    · rintro n σ1 J G sJ sG _ ⟨q0, vs, fs, x4, x5, x6, x7, i, rfl, hJa, hGa, hJd, hGd, pv, good, hi, hn, hb⟩
      have lv : vs.length = fs.length := Paired.length pv
      have few := good.few hp
      refine ⟨_, c_test (e_b2 (e_var (R := dI) (x := (i : Int)) rfl) (e_lenC rfl hGa (fun z => z))), fun ht J2 G2 e4 c4 => ?_, fun ht J2 G2 e4 c4 => ?_⟩
      · have hlt : i < fs.length := by have := of_decide_eq_true ht; omega
        have hq : fs[i]? = some fs[i] := List.getElem?_eq_getElem hlt
        have hGa2 := e4.kp _ _ (fun z => z) hGa
        refine s_asgG (M := M0) (e_ixC rfl hGa2 (fun z => z) (paired_up pv e4.ii) (e_var (R := dI) (x := (i : Int)) rfl) (atI_nat hq)) b_pair e4.si True.intro (fun σ3 J3 G3 e5 c5 hσ => ?_)
        obtain ⟨y, z, rfl, ry, rz⟩ := hσ
        refine s_augI (M := M0) (f := fun i j => i + j) rfl (show dI J3 _ (i : Int) from rfl) (e_int (i := 1)) e5.si True.intro (fun J4 G4 e6 c6 => ?_)
        have e46 := (e4.trans e5).trans e6
        have p6 := q0.trans e46
        have okq := good.ok _ (List.getElem_mem hlt)
        have shq := good.short i _ hq
        have lo := hp.lo
        have hi3 := hp.hi
        refine s_for (M := M0) (s_rng (e_many KC (e_var (Mono.up r0 p6.ii))) (by omega) (by omega)) b_name e6.si True.intro (fun j σ' J G => Ex0 I H J G ∧ Sub J4 J ∧ ∃ vs x6 x7, σ' = [some v0, some (.ref a), some (.ref d), some (.int ((i : Int) + 1)), some y, some z, x6, x7] ∧ J a = none ∧ G a = some (.lst vs) ∧ J d = none ∧
          G d = some (.dT (known (((rng p.1).take j).foldl (tryK p fs[i]) fs))) ∧ Paired (dSt J) vs (((rng p.1).take j).foldl (tryK p fs[i]) fs)) ?_ ?_ ?_ ?_
        · rintro j σ' J5 G5 J6 G6 e7 ⟨g0, g1, vs', y6, y7, g2, g3, g4, g5, g6, g7⟩
          exact ⟨g0.trans e7, g1.trans e7.ii, vs', y6, y7, g2, e7.out g3 (by rw [g4]; simp), e7.kp _ _ (fun z => z) g4, e7.out g5 (by rw [g6]; simp), e7.kp _ _ (fun z => z) g6, paired_up g7 e7.ii⟩
        · intro J5 G5 e7 c7
          have e47 := e46.trans e7
          exact ⟨p6.trans e7, e7.ii, vs, x6, x7, rfl, e47.out hJa (by rw [hGa]; simp), e47.kp _ _ (fun z => z) hGa, e47.out hJd (by rw [hGd]; simp), e47.kp _ _ (fun z => z) hGd, paired_up pv e47.ii⟩
        · rintro I0 s0 j hj σ1 σ2 J5 G5 sJ5 sG5 _ ⟨g0, g1, vs', y6, y7, rfl, g3, g4, g5, g6, g7⟩ ⟨v, rfl, rv⟩
          have hk := mem_rng (List.getElem_mem hj)
          have pre := fold_good hp ((rng p.1).take j) (fun k hk => mem_rng (List.mem_of_mem_take hk)) good hq
          have fewg := pre.1.few hp
          have ry5 := Mono.up ry (e6.ii.trans g1)
          have rz5 := Mono.up rz (e6.ii.trans g1)
          refine s_asg (M := M0) (e_ix1 (e_call (a_cons (e_var (Mono.up r0 g0.ii)) (a_cons (e_var ry5) (a_cons (e_var rv) a_nil))) ⟨kok, okq.1.len, hk.1, hk.2⟩)) sG5 True.intro (fun v7 J6 G6 e8 c8 q7 => ?_)
          have g6' := e8.kp _ _ (fun z => z) g6
          have g4' := e8.kp _ _ (fun z => z) g4
          have tk : ((rng p.1).take (j + 1)).foldl (tryK p fs[i]) fs = tryK p fs[i] (((rng p.1).take j).foldl (tryK p fs[i]) fs) (rng p.1)[j] := by rw [take_snoc hj, List.foldl_append]; rfl
          refine s_if (M := M0) (c_val (e_dnotin rfl (.inl g6') (fun z => z) (e_var q7))) e8.si True.intro (fun hc J7 G7 e9 c9 => ?_) (fun hc J7 G7 e9 c9 => ?_)
          · rw [known_has] at hc
            have hnot : (stepK p fs[i].1 (rng p.1)[j]).2 ∉ (((rng p.1).take j).foldl (tryK p fs[i]) fs).map Prod.fst := by simpa using hc
            have e89 := e8.trans e9
            refine s_dput (M := M0) (R := dB) (x := true) rfl (e9.kp _ _ (fun z => z) g6') (e89.out g5 (by rw [g6]; simp)) (fun z => z) e_bl (e_var (Mono.up q7 e9.ii)) e9.si True.intro (by rw [known_len, sizeLine_eq]; omega) (fun u J8 G8 e10 c10 g8 g9 ru => ?_)
            have eu : u = V.bl true := ru
            subst eu
            have e810 := e89.trans e10
            rw [known_put (r := fs[i].2 ++ [(rng p.1)[j]]) hnot]
            have x8 := ((g0.trans e810).put (o := .dT (known ((((rng p.1).take j).foldl (tryK p fs[i]) fs) ++ [((stepK p fs[i].1 (rng p.1)[j]).2, fs[i].2 ++ [(rng p.1)[j]])]))) (.inr (by
              cases h : H d with
              | none => rfl
              | some o => exact absurd hd (e1.dm d (by rw [h]; simp)))) g9)
            have g4'' : upd G8 d (.dT (known ((((rng p.1).take j).foldl (tryK p fs[i]) fs) ++ [((stepK p fs[i].1 (rng p.1)[j]).2, fs[i].2 ++ [(rng p.1)[j]])]))) a = some (.lst vs') := by
              rw [upd_ne ad]; exact e810.kp _ _ (fun z => z) g4
            refine s_append (M := M0) (R := dSt) rfl g4'' (e810.out g3 (by rw [g4]; simp)) (fun z => z) (e_pair (e_var (Mono.up q7 (e9.ii.trans e10.ii))) (e_catT (e_var (Mono.up rz5 e810.ii)) (e_tup (l_cons (e_var (Mono.up rv e810.ii)) l_nil)) ?_)) x8.si True.intro ?_ (fun u J9 G9 e11 c11 h1 h2 ru => ?_)
            · rw [sizeLine_eq]; show fs[i].2.length + 1 ≤ _; omega
            · rw [Paired.length g7, sizeLine_eq]; omega
            · have x9 := (x8.trans e11).put (o := .lst (vs' ++ [u])) (.inr ha) h2
              refine ⟨J9, sJ5.trans (e810.ii.trans e11.ii), x9.si, True.intro, x9, g1.trans (e810.ii.trans e11.ii), vs' ++ [u], _, _, rfl, h2, upd_same, e11.out g9 (by rw [upd_same]; simp), ?_, ?_⟩
              · rw [upd_ne (Ne.symm ad), tk, tryK_new hnot]
                exact e11.kp _ _ (fun z => z) upd_same
              · rw [tk, tryK_new hnot]
                exact paired_app (paired_up g7 (e810.ii.trans e11.ii)) (.cons ru .nil)
          · rw [known_has] at hc
            have hin : (stepK p fs[i].1 (rng p.1)[j]).2 ∈ (((rng p.1).take j).foldl (tryK p fs[i]) fs).map Prod.fst := by simpa using hc
            have e89 := e8.trans e9
            refine ⟨J7, sJ5.trans e89.ii, e9.si, True.intro, g0.trans e89, g1.trans e89.ii, vs', _, _, rfl, e89.out g3 (by rw [g4]; simp), e89.kp _ _ (fun z => z) g4, e89.out g5 (by rw [g6]; simp), ?_, ?_⟩
            · rw [tk, tryK_old hin]
              exact e89.kp _ _ (fun z => z) g6
            · rw [tk, tryK_old hin]
              exact paired_up g7 e89.ii
        · rintro σ1 J5 G5 sJ5 sG5 _ ⟨g0, g1, vs', y6, y7, rfl, g3, g4, g5, g6, g7⟩
          rw [List.take_length] at g6 g7
          obtain ⟨n', rfl⟩ : ∃ n', n = n' + 1 := ⟨n - 1, by omega⟩
          have tg := fold_good hp (rng p.1) (fun k hk => mem_rng hk) good hq
          have l1 := tg.2.1.length_le
          refine ⟨n', J5, Nat.lt_succ_self _, (sJ.trans e46.ii).trans g1, sG5, True.intro, g0, vs', (rng p.1).foldl (tryK p fs[i]) fs, _, _, _, _, i + 1, rfl, g3, g4, g5, g6, g7, tg.1, by omega, by omega, ?_⟩
          rw [← hb, bfsK, hq]
          rfl
      · have hge : fs.length ≤ i := by have := of_decide_eq_false ht; omega
        have e5 := q0.trans e4
        rw [bfs_end hge] at hb
        subst hb
        have hGa2 := e4.kp _ _ (fun z => z) hGa
        have hJa2 := e4.out hJa (by rw [hGa]; simp)
        have z := e5.seal ha hGa2 hJa2
        exact s_ret (M := M0) (R := dL dSt) (x := allStates p) (e_var ⟨a, vs, rfl, upd_same, paired_up pv (e4.ii.trans (Sub.in_ hJa2))⟩) z.si True.intro (fun v J3 G3 e c r => k v J3 G3 (z.trans e) r)
end
end KK

/-! the law's own search -/
namespace KK
open PySem PySem.Spec PyProof.Rows L2 RZ DL
theorem enum_get' {xs : List Int} {n : Nat} {q : Int × Int} (h : (enum xs)[n]? = some q) : ∃ hn : n < xs.length, q = ((n : Int), xs[n]) := by
  obtain ⟨hl, e⟩ := List.getElem?_eq_some_iff.mp h
  obtain ⟨h1, e1⟩ := enum_get hl
  exact ⟨h1, by rw [← e, e1]⟩
/-- a stand behind a comer as the law makes it -/
theorem capped_enum {caps c : List Int} (h : c.length = caps.length) : ((enum c).map fun q => if caps.getD q.1.toNat 0 < q.2 then caps.getD q.1.toNat 0 else q.2) = (c.zip caps).map fun q => if q.2 < q.1 then q.2 else q.1 := by
  apply List.ext_getElem?
  intro i
  rw [List.getElem?_map, List.getElem?_map]
  by_cases hi : i < c.length
  · have h1 : (enum c)[i]? = some ((i : Int), c[i]) := enum_get? (List.getElem?_eq_getElem hi)
    have h2 : (c.zip caps)[i]? = some (c[i], caps[i]'(by omega)) := by rw [List.getElem?_zip_eq_some]; exact ⟨List.getElem?_eq_getElem hi, List.getElem?_eq_getElem (by omega)⟩
    rw [h1, h2]
    show some (if caps.getD i 0 < c[i] then caps.getD i 0 else c[i]) = some _
    rw [List.getD_eq_getElem?_getD, List.getElem?_eq_getElem (by omega)]
    rfl
  · rw [List.getElem?_eq_none (by rw [enum_length]; omega), List.getElem?_eq_none (by rw [List.length_zip]; omega)]
    rfl
structure PreOn (p : Kd) (caps stand : List Int) (k : Int) : Prop where
  lots : LotsOk p.1 p.2
  caps : caps = capsOf p
  len : stand.length = p.1.toNat
  kind : KindOk p k
abbrev kdOf (stand : List Int) (lots : List (List Int)) : Kd := ((stand.length : Int), lots)
abbrev sp_law_on : Sp := DL.sp (aCons (dT dI) (aCons (dT (dT dI)) (aCons (dT dI) (aCons dI aNil)))) (fun x => PreOn (kdOf x.2.2.1 x.2.1) x.1 x.2.2.1 x.2.2.2.1) (dT dI) (fun x => onK (kdOf x.2.2.1 x.2.1) x.2.2.1 x.2.2.2.1)
section
variable {P : Program} {w : World} {K : PySem.W.Frag} {mg : Str → Option Value} {base : Heap}
abbrev s_law_on : Stmt := topS 41
abbrev N_law_on : List Str := ["caps_v", "lots", "stand", "kind", "more", "at", "count", "lot", "many"]
theorem sc_law_on : FnScope N_law_on ["caps_v", "lots", "stand", "kind"] (defScope s_law_on) := ⟨rfl, rfl, rfl, by decide +kernel, rfl, by decide +kernel, by decide +kernel⟩
theorem mk_law_on {f : Addr} {fd : FuncData} (F : Df K mg "_law_on" s_law_on ["caps_v", "lots", "stand", "kind"] f fd) (T : Txt mg) : Cal P w K mg base 1 "_law_on" sp_law_on := by
  refine Cal.of F (F.fn.ok sc_law_on (fun vs H Q E h => ?_) (fun cdv A outer s H vs Q E hr h => ?_))
  · obtain ⟨I, x, si, ⟨v0, _, rfl, r0, v1, _, rfl, r1, v2, _, rfl, r2, v3, _, rfl, r3, rfl⟩, hp, k⟩ := h
    rfl
  · obtain ⟨I, ⟨caps, lots, stand, kind, ⟨⟩⟩, si, ⟨v0, _, rfl, r0, v1, _, rfl, r1, v2, _, rfl, r2, v3, _, rfl, r3, rfl⟩, pre, k⟩ := h
    replace pre : PreOn (kdOf stand lots) caps stand kind := pre
    dsimp only at *
    refine ⟨_, (pss_cons (ps_set (i := 4) sc_law_on.nd rfl (Or.inr rfl) (ktuple K (by rfl) T.b_tuple (by exact (pe_lc (own := [("at", 5), ("count", 6)]) (g := gTup K 2 (gCons (gName 5) (gCons (gName 6) (gNil)))) rfl sc_law_on.nd (kenum K rfl T.b_enumerate (pa_cons (pv 2) pa_nil)) (by exact (blkOk_by (N := N_law_on) (sc := (defScope s_law_on)) (by decide +kernel))) (fun _ _ _ _ _ => by exact (kgtup K rfl (pgs_cons (pg_name (i := 5) sc_law_on.nd rfl (Or.inl rfl)) (pgs_cons (pg_name (i := 6) sc_law_on.nd rfl (Or.inl rfl)) pgs_nil)))) (fun _ _ _ _ _ => by exact pts_nil) (fun _ _ _ _ _ => by exact (pe_op op_add (pv 6) (pe_callTy call_int1 (by rfl) T.b_int boot_int (pa_cons (pe_cmpR op_eq (pv 5) (pv 3) (nomark _)) pa_nil))))))))
    (pss_cons (ps_if (pt_val (pe_callB (kany K rfl) (by rfl) T.b_any boot_any (pa_cons (by exact (pe_lc (own := [("lot", 7)]) (g := gName 7) rfl sc_law_on.nd (ktup K (pv 1)) (by exact (blkOk_by (N := N_law_on) (sc := (defScope s_law_on)) (by decide +kernel))) (fun _ _ _ _ _ => by exact (pg_name (i := 7) sc_law_on.nd rfl (Or.inl rfl))) (fun _ _ _ _ _ => by exact pts_nil) (fun _ _ _ _ _ => by exact (pe_callB (kall K rfl) (by rfl) T.b_all boot_all (pa_cons (by exact (pe_lc (own := [("at", 5), ("many", 8)]) (g := gTup K 2 (gCons (gName 5) (gCons (gName 8) (gNil)))) rfl sc_law_on.nd (kenum K rfl T.b_enumerate (pa_cons (pv 7) pa_nil)) (by exact (blkOk_by (N := N_law_on) (sc := (relS _ (defScope s_law_on))) (by decide +kernel))) (fun _ _ _ _ _ => by exact (kgtup K rfl (pgs_cons (pg_name (i := 5) sc_law_on.nd rfl (Or.inl rfl)) (pgs_cons (pg_name (i := 8) sc_law_on.nd rfl (Or.inl rfl)) pgs_nil)))) (fun _ _ _ _ _ => by exact pts_nil) (fun _ _ _ _ _ => by exact (pe_cmpR op_ge (pe_ix (kixT K) (pv 4) (pv 5) (fun _ _ => rfl)) (pv 8) (nomark _))))) pa_nil))))) pa_nil))) (pss_one (ps_ret (pv 2))) pss_nil)
    (pss_one (ps_ret (ktuple K (by rfl) T.b_tuple (by exact (pe_lc (own := [("at", 5), ("count", 6)]) (g := gTup K 2 (gCons (gName 5) (gCons (gName 6) (gNil)))) rfl sc_law_on.nd (kenum K rfl T.b_enumerate (pa_cons (pv 4) pa_nil)) (by exact (blkOk_by (N := N_law_on) (sc := (defScope s_law_on)) (by decide +kernel))) (fun _ _ _ _ _ => by exact (kgtup K rfl (pgs_cons (pg_name (i := 5) sc_law_on.nd rfl (Or.inl rfl)) (pgs_cons (pg_name (i := 6) sc_law_on.nd rfl (Or.inl rfl)) pgs_nil)))) (fun _ _ _ _ _ => by exact pts_nil) (fun _ _ _ _ _ => by exact (pe_callB (call_min2 rfl) (by rfl) T.b_min boot_min (pa_cons (pv 6) (pa_cons (pe_ix (kixT K) (pv 0) (pv 5) (fun _ _ => rfl)) pa_nil))))))))))), ?_⟩
    have kok := pre.lots.kok
    have hl : stand.length ≤ 3 := by have := pre.lots.hi; dsimp only at this; omega
    have few : lots.length ≤ 12 := pre.lots.few
    have k0 := pre.kind.1
    have k1 : kind < (stand.length : Int) := pre.kind.2
    have cl : caps.length = stand.length := by rw [pre.caps, capsOf_len]; show ((stand.length : Int)).toNat = _; omega
    have h3 : ∀ l ∈ lots, l.length = stand.length := fun l hl => by have := kok.len l hl; show l.length = stand.length; rw [this]; show ((stand.length : Int)).toNat = _; omega
    have ml := moreOf_len stand kind
    refine s_asg (M := M0) (e_tupleL (e_lcP (f := fun p : Int × Int => p.2 + (if decide (p.1 = kind) = true then 1 else 0)) (s_enumT (e_var r2)) (by rw [enum_length, sizeLine_eq]; omega) (fun i hi v w J G x q1 q2 => e_i2 (e_var q2) (e_intB (e_eqI (e_var q1) (e_var (Mono.up r3 x.ii))))))) si True.intro (fun v4 I1 H1 e1 c1 q4 => ?_)
    replace q4 : dT dI I1 v4 (moreOf stand kind) := q4
    refine s_if (M := M0) (b := isOut lots stand kind) (c_val (e_anyL (e_lcN (f := fun lot : List Int => ((enum lot).map fun q : Int × Int => decide (q.2 ≤ (moreOf stand kind).getD q.1.toNat 0)).all id) (s_tup (e_var (Mono.up r1 e1.ii))) (by rw [sizeLine_eq]; omega) (fun i hi v J G x q => e_allL (e_lcP (f := fun q : Int × Int => decide (q.2 ≤ (moreOf stand kind).getD q.1.toNat 0)) (s_enumT (e_var q)) ?_ (fun n hn v' w' J' G' x' q1 q2 => e_b2 (e_ixT (e_var (Mono.up (Mono.up q4 x.ii) x'.ii)) (e_var q1) (atI_getD 0 ?_ ?_)) (e_var q2))))))) e1.si True.intro (fun ht I2 H2 e2 c2 => ?_) (fun ht I2 H2 e2 c2 => ?_)
    · have := h3 _ (List.getElem_mem hi)
      rw [enum_length, sizeLine_eq]; omega
    · obtain ⟨hn1, he⟩ := enum_get hn
      rw [he]; exact Int.natCast_nonneg n
    · obtain ⟨hn1, he⟩ := enum_get hn
      rw [he]
      have := h3 _ (List.getElem_mem hi)
      show ((n : Nat) : Int) < ((moreOf stand kind).length : Nat)
      omega
    · refine s_ret (M := M0) (e_var (Mono.up r2 (e1.ii.trans e2.ii))) e2.si True.intro (fun v J G e c r => k v J G ((e1.trans e2).trans e) ?_)
      have eo := out_eq (p := kdOf stand lots) (s := stand) (k := kind) kok pre.len k0 k1
      show dT dI J v (onK (kdOf stand lots) stand kind)
      unfold onK stepK
      rw [eo, if_pos ht]
      exact r
    · refine s_ret (M := M0) (e_tupleL (e_lcP (f := fun q : Int × Int => if caps.getD q.1.toNat 0 < q.2 then caps.getD q.1.toNat 0 else q.2) (s_enumT (e_var (Mono.up q4 e2.ii))) (by rw [enum_length, sizeLine_eq]; omega) (fun i hi v w J G x q1 q2 => e_min2 (e_var q2) (e_ixT (e_var (Mono.up r0 ((e1.ii.trans e2.ii).trans x.ii))) (e_var q1) (atI_getD 0 ?_ ?_))))) e2.si True.intro (fun v J G e c r => k v J G ((e1.trans e2).trans e) ?_)
      · obtain ⟨hn1, he⟩ := enum_get hi
        rw [he]; exact Int.natCast_nonneg i
      · obtain ⟨hn1, he⟩ := enum_get hi
        rw [he]
        show ((i : Nat) : Int) < (caps.length : Nat)
        omega
      · have eo := out_eq (p := kdOf stand lots) (s := stand) (k := kind) kok pre.len k0 k1
        have no : ¬ (isOut lots stand kind = true) := by rw [ht]; exact Bool.false_ne_true
        show dT dI J v (onK (kdOf stand lots) stand kind)
        unfold onK stepK
        rw [eo, if_neg no, ← moreOf_one k0 k1]
        show dT dI J v (cappedK (kdOf stand lots) (moreOf stand kind))
        unfold cappedK
        rw [← pre.caps, ← capped_enum (by omega)]
        exact r
theorem on_kd {p : Kd} {s lots k} (hp : LotsOk p.1 p.2) (e : lots = p.2) (hs : s.length = p.1.toNat) : onK (kdOf s lots) s k = onK p s k := by
  have : ((s.length : Nat) : Int) = p.1 := by rw [hs]; have := hp.lo; omega
  unfold kdOf
  rw [this, e]
/-! ### _law_stands -/
def dRef : Rel Addr := fun _ v a => v = .ref a
instance : Mono dRef := ⟨fun h _ => h⟩
def rowsD (ws : List V) (fs : Sts) : List (List L2.Key × V) := (fs.zip ws).map fun q => (kI q.1.1, q.2)
/-- the dict of all stands, each with its row's value -/
def spD_stands : Sp := fun vs H Q _ => ∃ I x, Sub I H ∧ aCons dI (aCons (dT (dT dI)) aNil) I vs x ∧ LotsOk x.1 x.2.1 ∧
  ∀ v d ws I' H', Ex0 I H I' H' → H d = none → I' d = none → H' d = some (.dT (rowsD ws (allStates (x.1, x.2.1)))) → Paired (dT dI I') ws ((allStates (x.1, x.2.1)).map Prod.snd) → dP (dT dI) dRef I' v (capsOf (x.1, x.2.1), d) → Q v H'
theorem rows_keys {ws : List V} {fs : Sts} (h : ws.length = fs.length) : (rowsD ws fs).map (·.1) = (fs.map Prod.fst).map kI := by
  unfold rowsD
  rw [List.map_map, List.map_map]
  have key : ∀ (fs : Sts) (ws : List V), ws.length = fs.length → (fs.zip ws).map ((fun x => x.1) ∘ fun q : (List Int × List Int) × V => (kI q.1.1, q.2)) = fs.map (kI ∘ Prod.fst) := fun fs => by
    induction fs with
    | nil => intro ws _; rfl
    | cons q fs ih =>
      intro ws hw
      cases ws with
      | nil => cases hw
      | cons u ws =>
        rw [List.zip_cons_cons, List.map_cons, List.map_cons, ih ws (Nat.succ.inj hw)]
        rfl
  exact key fs ws h
theorem rows_val {fs : Sts} : ∀ {ws : List V} {i : Nat} {q : List Int × List Int}, (fs.map Prod.fst).Nodup → ws.length = fs.length → fs[i]? = some q → ∃ u, ws[i]? = some u ∧ valV (rowsD ws fs) (kI q.1) = some u := by
  induction fs with
  | nil => intro ws i q _ _ h; cases h
  | cons x fs ih =>
    intro ws i q nd hl h
    cases ws with
    | nil => cases hl
    | cons u ws =>
      rw [List.map_cons, List.nodup_cons] at nd
      cases i with
      | zero =>
        cases h
        exact ⟨u, rfl, valV_pos rfl⟩
      | succ i =>
        obtain ⟨v, h1, h2⟩ := ih nd.2 (Nat.succ.inj hl) h
        refine ⟨v, h1, ?_⟩
        have ne : ¬ (kI x.1 = kI q.1) := fun e => nd.1 (by
          rw [kI_inj e]
          exact List.mem_map.mpr ⟨q, List.mem_of_getElem? h, rfl⟩)
        show valV ((kI x.1, u) :: rowsD ws fs) (kI q.1) = some v
        rw [valV_neg ne, h2]
theorem rows_has {ws : List V} {fs : Sts} {s : List Int} (h : ws.length = fs.length) : (valV (rowsD ws fs) (kI s)).isSome = decide (s ∈ fs.map Prod.fst) := by
  rw [Bool.eq_iff_iff, decide_eq_true_iff, ← valV_any]
  have e := rows_keys h
  rw [List.any_eq_true]
  constructor
  · rintro ⟨x, hx, z⟩
    have : x.1 ∈ (rowsD ws fs).map (·.1) := List.mem_map.mpr ⟨x, hx, rfl⟩
    rw [e] at this
    obtain ⟨t, ht, et⟩ := List.mem_map.mp this
    have := of_decide_eq_true z
    rw [← et] at this
    rw [← kI_inj this]
    exact ht
  · intro hs
    have : kI s ∈ (rowsD ws fs).map (·.1) := by rw [e]; exact List.mem_map.mpr ⟨s, hs, rfl⟩
    obtain ⟨x, hx, ex⟩ := List.mem_map.mp this
    exact ⟨x, hx, decide_eq_true ex⟩
theorem rows_put {ws : List V} {fs : Sts} {s r : List Int} {u : V} (hl : ws.length = fs.length) (h : s ∉ fs.map Prod.fst) : putK (rowsD ws fs) (kI s) u = rowsD (ws ++ [u]) (fs ++ [(s, r)]) := by
  rw [putK_new]
  · unfold rowsD
    rw [List.zip_append (by omega), List.map_append]
    rfl
  · cases g : valV (rowsD ws fs) (kI s) with
    | none => rfl
    | some v =>
      have z := rows_has (s := s) hl
      rw [g, decide_eq_false h] at z
      cases z
theorem rows_len {ws : List V} {fs : Sts} (h : ws.length = fs.length) : (rowsD ws fs).length = fs.length := by unfold rowsD; rw [List.length_map, List.length_zip]; omega
end
end KK

namespace KK
open PySem PySem.Spec PyProof.Rows L2 RZ DL
section
variable {P : Program} {w : World} {K : PySem.W.Frag} {mg : Str → Option Value} {base : Heap}
theorem paired_at {α : Type} {F : V → α → Prop} {vs : List V} {xs : List α} {i : Nat} {u : V} {x : α} (p : Paired F vs xs) (h : vs[i]? = some u) (hx : xs[i]? = some x) : F u x := by
  obtain ⟨y, h1, h2⟩ := DL.paired_get p h
  rw [hx] at h1
  cases h1
  exact h2
abbrev s_law_stands : Stmt := topS 40
abbrev N_law_stands : List Str := ["many", "lots", "caps_v", "rows", "line", "at", "kind", "later", "lot"]
theorem sc_law_stands : FnScope N_law_stands ["many", "lots"] (defScope s_law_stands) := ⟨rfl, rfl, rfl, by decide +kernel, rfl, by decide +kernel, by decide +kernel⟩
theorem mk_law_stands {f : Addr} {fd : FuncData} (F : Df K mg "_law_stands" s_law_stands ["many", "lots"] f fd) (T : Txt mg) (c_law_on : Cal P w K mg base 1 "_law_on" sp_law_on) : Cal P w K mg base 2 "_law_stands" spD_stands := by
  refine Cal.of F (F.fn.ok sc_law_stands (fun vs H Q E h => ?_) (fun cdv A outer s H vs Q E hr h => ?_))
  · obtain ⟨I, x, si, ⟨v0, _, rfl, r0, v1, _, rfl, r1, rfl⟩, hp, k⟩ := h
    rfl
  · obtain ⟨I, ⟨many, lots, ⟨⟩⟩, si, ⟨v0, _, rfl, r0, v1, _, rfl, r1, rfl⟩, hp, k⟩ := h
    dsimp only at *
    have lo := hp.lo
    have hi3 := hp.hi
    have few := hp.few
    have kok := hp.kok
    refine ⟨_, (pss_cons (ps_set (i := 2) sc_law_stands.nd rfl (Or.inl rfl) (ktuple K (by rfl) T.b_tuple (by exact (pe_lc (own := [("kind", 6)]) (g := gName 6) rfl sc_law_stands.nd (pi_range1 rfl T.b_range (pa_cons (pv 0) pa_nil)) (by exact (blkOk_by (N := N_law_stands) (sc := (defScope s_law_stands)) (by decide +kernel))) (fun _ _ _ _ _ => by exact (pg_name (i := 6) sc_law_stands.nd rfl (Or.inr rfl))) (fun _ _ _ _ _ => by exact pts_nil) (fun _ _ _ _ _ => by exact (pe_callB (kmax K rfl) (by rfl) T.b_max boot_max (pa_cons (pe_op op_cat (by exact (pe_lc (own := [("lot", 8)]) (g := gName 8) rfl sc_law_stands.nd (ktup K (pv 1)) (by exact (blkOk_by (N := N_law_stands) (sc := (relS _ (defScope s_law_stands))) (by decide +kernel))) (fun _ _ _ _ _ => by exact (pg_name (i := 8) sc_law_stands.nd rfl (Or.inl rfl))) (fun _ _ _ _ _ => by exact pts_nil) (fun _ _ _ _ _ => by exact (pe_ix (kixT K) (pv 8) (pv 6) (fun _ _ => rfl))))) (pe_lst (pa_cons pe_int pa_nil))) pa_nil)))))))
    (pss_cons (ps_par3 (i := 3) (j := 4) (l := 5) rfl sc_law_stands.nd rfl rfl rfl (by decide) (by decide) (by decide) rfl rfl rfl (pa_cons (pe_disp1 (units1 hr.units) (pe_op (krepT K) (pe_tup (pa_cons pe_int pa_nil)) (pv 0)) (pe_tup pa_nil)) (pa_cons (pe_lst (pa_cons (pe_op (krepT K) (pe_tup (pa_cons pe_int pa_nil)) (pv 0)) pa_nil)) (pa_cons pe_int pa_nil))) rfl)
    (pss_cons (ps_while PassesOwn.never (pt_cmpR op_lt (pv 5) (pe_callB (klen K) (by rfl) T.b_len PySem.boot_len (pa_cons (pv 4) pa_nil)) (nomark _))
    (pss_cons (ps_for PassesOwn.never rfl (pi_range1 rfl T.b_range (pa_cons (pv 0) pa_nil)) (pg_name (i := 6) sc_law_stands.nd rfl (Or.inl rfl))
    (pss_cons (ps_set (i := 7) sc_law_stands.nd rfl (Or.inl rfl) (pe_c c_law_on hr (by decide) (by rfl) (pa_cons (pv 2) (pa_cons (pv 1) (pa_cons (pe_ix (kixL K) (pv 4) (pv 5) (fun _ _ => rfl)) (pa_cons (pv 6) pa_nil))))))
    (pss_one (ps_if (pt_cmp (pc_dnotin (units1 hr.units) (pv 7) (pv 3))) (pss_cons (ps_dput (units1 hr.units) (pv 3) (pv 7) (pe_op (kcatT K) (pe_dget (units1 hr.units) (pv 3) (pe_ix (kixL K) (pv 4) (pv 5) (fun _ _ => rfl)) (fun _ _ => rfl)) (pe_tup (pa_cons (pv 6) pa_nil))) rfl)
    (pss_one (ps_expr (pe_bm PySem.F.plainAttrs_list PySem.F.slot_list_append PySem.F.type_list_append mt_append (pv 4) (pa_cons (pv 7) pa_nil))))) pss_nil))))
    (pss_one (ps_set (i := 5) sc_law_stands.nd rfl (Or.inl rfl) (pe_op op_add (pv 5) pe_int)))))
    (pss_one (ps_ret (pe_tup (pa_cons (pv 2) (pa_cons (pv 3) pa_nil)))))))), ?_⟩
    refine s_asg (M := M0) (e_tupleL (e_lcN (f := fun kind : Int => maxL (lots.map (fun l : List Int => l.getD kind.toNat 0) ++ [0])) (s_rng (e_var r0) (by omega) (by omega)) (by rw [rng_length, sizeLine_eq]; omega) (fun i hi v J G x q => e_maxL (e_catL (e_lcN (f := fun l : List Int => l.getD ((rng many)[i]).toNat 0) (s_tup (e_var (Mono.up r1 x.ii))) (by rw [sizeLine_eq]; omega) (fun i8 hi9 v13 J11 G12 x10 q14 => e_ixT (e_var q14) (e_var (Mono.up q x10.ii)) (atI_getD 0 (by rw [rng_get]; omega) (by
        rw [rng_get, kok.len _ (List.getElem_mem hi9)]
        rw [rng_length] at hi
        show (i : Int) < (many.toNat : Nat)
        omega)))) (e_lst (l_cons e_int l_nil)) (by rw [List.length_map, sizeLine_eq]; simp only [List.length_singleton]; omega)) (maxL_mem0 (by simp)) (fun y hy => maxL_le (List.mem_cons_of_mem _ hy))))) si True.intro (fun v2 I1 H1 e1 c1 q2 => ?_)
    replace q2 : dT dI I1 v2 (capsOf (many, lots)) := q2
    refine s_par3C (M := M0) (fun h s => by obtain ⟨v, e, r⟩ := h; exact ⟨v, e, Mono.up r s⟩) (fun h s => by obtain ⟨v, e, r⟩ := h; exact ⟨v, e, paired_up r s⟩) (dc_disp1 (R := dT dI) (x := []) (ks := begin_ (many, lots)) (e_repT (e_tup (l_cons (e_int (i := 0)) l_nil)) (e_var (Mono.up r0 e1.ii)) (by omega) (by omega) (by simp)) (e_tup l_nil))
      (dc_F (R := dT dI) (xs := [begin_ (many, lots)]) (f_lst (l_cons (e_repT (e_tup (l_cons (e_int (i := 0)) l_nil)) (e_var (Mono.up r0 e1.ii)) (by omega) (by omega) (by simp)) l_nil))) (R := dI) (x := 0) e_int e1.si True.intro
      (fun d o a o' v5 I2 H2 e2 c2 hd hId hHd wd ha hIa hHa wa da q5 => ?_)
    obtain ⟨u0, rfl, ru0⟩ := wd
    obtain ⟨ls0, rfl, pl0⟩ := wa
    have ev : v5 = V.int 0 := q5
    subst ev
    have e12 := e1.trans e2
    have hd0 : H d = none := by
      cases g : H d with
      | none => rfl
      | some u => exact absurd hd (e1.dm d (by rw [g]; simp))
    have ha0 : H a = none := by
      cases g : H a with
      | none => rfl
      | some u => exact absurd ha (e1.dm a (by rw [g]; simp))
    dsimp only [tSeq]
    refine s_while (M := M0) e2.si True.intro (fun n σ' J G => Ex0 I H J G ∧ Sub I2 J ∧ ∃ ls ws fs x6 x7 x8, ∃ i : Nat, σ' = [some v0, some v1, some v2, some (.ref d), some (.ref a), some (.int i), x6, x7, x8] ∧ J a = none ∧ G a = some (.lst ls) ∧ J d = none ∧ G d = some (.dT (rowsD ws fs)) ∧
      Paired (dT dI J) ls (fs.map Prod.fst) ∧ Paired (dT dI J) ws (fs.map Prod.snd) ∧ Srch (many, lots) fs ∧ i ≤ fs.length ∧ n + i = 126 ∧ bfsK (many, lots) n i fs = allStates (many, lots)) (n0 := 126) ?_ ?_
    · exact ⟨e12, Sub.refl, ls0, [u0], [(begin_ (many, lots), [])], none, none, none, 0, rfl, hIa, hHa, hId, hHd, pl0, .cons ru0 .nil, good_start, Nat.zero_le _, rfl, (allStates_is _).symm⟩
    · rintro n σ1 J G sJ sG _ ⟨g0, s2, ls, ws, fs, x6, x7, x8, i, rfl, hJa, hGa, hJd, hGd, pl, pw, good, hi, hn, hb⟩
      have ll : ls.length = fs.length := (Paired.length pl).trans (List.length_map _)
      have lw : ws.length = fs.length := (Paired.length pw).trans (List.length_map _)
      refine ⟨_, c_test (e_b2 (e_var (R := dI) (x := (i : Int)) rfl) (e_lenC rfl hGa (fun z => z))), fun ht J2 G2 e4 c4 => ?_, fun ht J2 G2 e4 c4 => ?_⟩
      · have hlt : i < fs.length := by have := of_decide_eq_true ht; omega
        have hq : fs[i]? = some fs[i] := List.getElem?_eq_getElem hlt
        have p4 := g0.trans e4
        have okq := good.ok _ (List.getElem_mem hlt)
        have shq := good.short i _ hq
        have fewg0 := good.few hp
        refine s_for (M := M0) (s_rng (e_var (Mono.up r0 p4.ii)) (by omega) (by omega)) b_name e4.si True.intro (fun j σ' J G => Ex0 I H J G ∧ Sub J2 J ∧ ∃ ls ws x6 x7 x8, σ' = [some v0, some v1, some v2, some (.ref d), some (.ref a), some (.int i), x6, x7, x8] ∧ J a = none ∧ G a = some (.lst ls) ∧ J d = none ∧
          G d = some (.dT (rowsD ws (((rng many).take j).foldl (tryK (many, lots) fs[i]) fs))) ∧ Paired (dT dI J) ls ((((rng many).take j).foldl (tryK (many, lots) fs[i]) fs).map Prod.fst) ∧ Paired (dT dI J) ws ((((rng many).take j).foldl (tryK (many, lots) fs[i]) fs).map Prod.snd)) ?_ ?_ ?_ ?_
        · rintro j σ' J5 G5 J6 G6 e7 ⟨g0, g1, ls', ws', y6, y7, y8, g2, g3, g4, g5, g6, g7, g8⟩
          exact ⟨g0.trans e7, g1.trans e7.ii, ls', ws', y6, y7, y8, g2, e7.out g3 (by rw [g4]; simp), e7.kp _ _ (fun z => z) g4, e7.out g5 (by rw [g6]; simp), e7.kp _ _ (fun z => z) g6, paired_up g7 e7.ii, paired_up g8 e7.ii⟩
        · intro J5 G5 e7 c7
          have e47 := e4.trans e7
          exact ⟨p4.trans e7, e7.ii, ls, ws, x6, x7, x8, rfl, e47.out hJa (by rw [hGa]; simp), e47.kp _ _ (fun z => z) hGa, e47.out hJd (by rw [hGd]; simp), e47.kp _ _ (fun z => z) hGd, paired_up pl e47.ii, paired_up pw e47.ii⟩
        · rintro I0 s0 j hj σ1 σ2 J5 G5 sJ5 sG5 _ ⟨g0, g1, ls', ws', y6, y7, y8, rfl, g3, g4, g5, g6, g7, g8⟩ ⟨v, rfl, rv⟩
          have hk := mem_rng (List.getElem_mem hj)
          have pre := fold_good hp ((rng many).take j) (fun k hk => mem_rng (List.mem_of_mem_take hk)) good hq
          have fewg := pre.1.few hp
          have hq' := pre_get pre.2.1 hq
          have ll' : ls'.length = (((rng many).take j).foldl (tryK (many, lots) fs[i]) fs).length := (Paired.length g7).trans (List.length_map _)
          have lw' : ws'.length = (((rng many).take j).foldl (tryK (many, lots) fs[i]) fs).length := (Paired.length g8).trans (List.length_map _)
          have at1 : ∀ {G' : Hp}, atI ((((rng many).take j).foldl (tryK (many, lots) fs[i]) fs).map Prod.fst) (i : Int) = some fs[i].1 := fun {_} => atI_nat (by rw [List.getElem?_map, hq']; rfl)
          have onE : onK (kdOf fs[i].1 lots) fs[i].1 (rng many)[j] = (stepK (many, lots) fs[i].1 (rng many)[j]).2 := on_kd (p := (many, lots)) hp rfl okq.1.len
          have kd : (kdOf fs[i].1 lots) = (many, lots) := by
            show (((fs[i].1.length : Nat) : Int), lots) = (many, lots)
            rw [okq.1.len]
            show ((many.toNat : Int), lots) = _
            rw [Int.toNat_of_nonneg (by omega)]
          refine s_asg (M := M0) (e_call (a_cons (e_var (Mono.up q2 (e2.ii.trans (s2.trans (e4.ii.trans g1))))) (a_cons (e_var (Mono.up r1 g0.ii)) (a_cons (e_ixC rfl g4 (fun z => z) g7 (e_var (R := dI) (x := (i : Int)) rfl) (at1 (G' := G5))) (a_cons (e_var rv) a_nil)))) ?_) sG5 True.intro (fun v7 J6 G6 e8 c8 q7 => ?_)
          · show PreOn (kdOf fs[i].1 lots) (capsOf (many, lots)) fs[i].1 (rng many)[j]
            rw [kd]
            exact ⟨hp, rfl, okq.1.len, hk⟩
          replace q7 : dT dI J6 v7 (onK (kdOf fs[i].1 lots) fs[i].1 (rng many)[j]) := q7
          rw [onE] at q7
          have g6' := e8.kp _ _ (fun z => z) g6
          have g4' := e8.kp _ _ (fun z => z) g4
          have tk : ((rng many).take (j + 1)).foldl (tryK (many, lots) fs[i]) fs = tryK (many, lots) fs[i] (((rng many).take j).foldl (tryK (many, lots) fs[i]) fs) (rng many)[j] := by rw [take_snoc hj, List.foldl_append]; rfl
          refine s_if (M := M0) (c_val (e_dnotin rfl (.inl g6') (fun z => z) (e_var q7))) e8.si True.intro (fun hc J7 G7 e9 c9 => ?_) (fun hc J7 G7 e9 c9 => ?_)
          · rw [rows_has lw'] at hc
            have hnot : (stepK (many, lots) fs[i].1 (rng many)[j]).2 ∉ (((rng many).take j).foldl (tryK (many, lots) fs[i]) fs).map Prod.fst := by simpa using hc
            have e89 := e8.trans e9
            have g6'' := e9.kp _ _ (fun z => z) g6'
            have g4'' := e9.kp _ _ (fun z => z) g4'
            obtain ⟨u, hu1, hu2⟩ := rows_val (ws := ws') pre.1.nd lw' hq'
            have ru : dT dI J5 u fs[i].2 := paired_at g8 hu1 (by rw [List.getElem?_map, hq']; rfl)
            refine s_dput (M := M0) (R := dT dI) (x := fs[i].2 ++ [(rng many)[j]]) rfl g6'' (e89.out g5 (by rw [g6]; simp)) (fun z => z)
              (e_catT (e_dget rfl (.inl g6'') (fun z => z) (e_ixC rfl g4'' (fun z => z) (paired_up g7 e89.ii) (e_var (R := dI) (x := (i : Int)) rfl) (at1 (G' := G7))) hu2 (Mono.up ru e89.ii)) (e_tup (l_cons (e_var (Mono.up rv e89.ii)) l_nil)) ?_) (e_var (Mono.up q7 e9.ii)) e9.si True.intro (by rw [rows_len lw', sizeLine_eq]; omega) (fun u8 J8 G8 e10 c10 g10 g9 ru8 => ?_)
            · rw [sizeLine_eq]; show fs[i].2.length + 1 ≤ _; omega
            have e810 := e89.trans e10
            rw [rows_put (r := fs[i].2 ++ [(rng many)[j]]) lw' hnot]
            have x8 := ((g0.trans e810).put (o := .dT (rowsD (ws' ++ [u8]) ((((rng many).take j).foldl (tryK (many, lots) fs[i]) fs) ++ [((stepK (many, lots) fs[i].1 (rng many)[j]).2, fs[i].2 ++ [(rng many)[j]])]))) (.inr hd0) g9)
            have h4 : upd G8 d (.dT (rowsD (ws' ++ [u8]) ((((rng many).take j).foldl (tryK (many, lots) fs[i]) fs) ++ [((stepK (many, lots) fs[i].1 (rng many)[j]).2, fs[i].2 ++ [(rng many)[j]])]))) a = some (.lst ls') := by
              rw [upd_ne (Ne.symm da)]; exact e810.kp _ _ (fun z => z) g4
            refine s_append (M := M0) (R := dT dI) rfl h4 (e810.out g3 (by rw [g4]; simp)) (fun z => z) (e_var (Mono.up q7 (e9.ii.trans e10.ii))) x8.si True.intro ?_ (fun u J9 G9 e11 c11 h1 h2 ru => ?_)
            · rw [ll', sizeLine_eq]; omega
            · have x9 := (x8.trans e11).put (o := .lst (ls' ++ [u])) (.inr ha0) h2
              refine ⟨J9, sJ5.trans (e810.ii.trans e11.ii), x9.si, True.intro, x9, g1.trans (e810.ii.trans e11.ii), ls' ++ [u], ws' ++ [u8], _, _, _, rfl, h2, upd_same, e11.out g9 (by rw [upd_same]; simp), ?_, ?_, ?_⟩
              · rw [upd_ne da, tk, tryK_new hnot]
                exact e11.kp _ _ (fun z => z) upd_same
              · rw [tk, tryK_new hnot, List.map_append]
                exact paired_app (paired_up g7 (e810.ii.trans e11.ii)) (.cons ru .nil)
              · rw [tk, tryK_new hnot, List.map_append]
                exact paired_app (paired_up g8 (e810.ii.trans e11.ii)) (.cons (Mono.up ru8 e11.ii) .nil)
          · rw [rows_has lw'] at hc
            have hin : (stepK (many, lots) fs[i].1 (rng many)[j]).2 ∈ (((rng many).take j).foldl (tryK (many, lots) fs[i]) fs).map Prod.fst := by simpa using hc
            have e89 := e8.trans e9
            refine ⟨J7, sJ5.trans e89.ii, e9.si, True.intro, g0.trans e89, g1.trans e89.ii, ls', ws', _, _, _, rfl, e89.out g3 (by rw [g4]; simp), e89.kp _ _ (fun z => z) g4, e89.out g5 (by rw [g6]; simp), ?_, ?_, ?_⟩
            · rw [tk, tryK_old hin]
              exact e89.kp _ _ (fun z => z) g6
            · rw [tk, tryK_old hin]
              exact paired_up g7 e89.ii
            · rw [tk, tryK_old hin]
              exact paired_up g8 e89.ii
        · rintro σ1 J5 G5 sJ5 sG5 _ ⟨g0, g1, ls', ws', y6, y7, y8, rfl, g3, g4, g5, g6, g7, g8⟩
          rw [List.take_length] at g6 g7 g8
          obtain ⟨n', rfl⟩ : ∃ n', n = n' + 1 := ⟨n - 1, by omega⟩
          have tg := fold_good hp (rng many) (fun k hk => mem_rng hk) good hq
          have l1 := tg.2.1.length_le
          refine s_asg (M := M0) (R := dI) (x := (i : Int) + 1) (e_i2 (e_var (R := dI) (x := (i : Int)) rfl) (e_int (i := 1))) sG5 True.intro (fun v9 J6 G6 e8 c8 q9 => ?_)
          have ev9 : v9 = V.int ((i + 1 : Nat) : Int) := q9
          subst ev9
          refine ⟨n', J6, Nat.lt_succ_self _, (sJ.trans e4.ii).trans (g1.trans e8.ii), e8.si, True.intro, g0.trans e8, s2.trans (e4.ii.trans (g1.trans e8.ii)), ls', ws', (rng many).foldl (tryK (many, lots) fs[i]) fs, _, _, _, i + 1, rfl, e8.out g3 (by rw [g4]; simp), e8.kp _ _ (fun z => z) g4, e8.out g5 (by rw [g6]; simp), e8.kp _ _ (fun z => z) g6, paired_up g7 e8.ii, paired_up g8 e8.ii, tg.1, by omega, by omega, ?_⟩
          rw [← hb, bfsK, hq]
          rfl
      · have hge : fs.length ≤ i := by have := of_decide_eq_false ht; omega
        have e5 := g0.trans e4
        rw [bfs_end hge] at hb
        subst hb
        have hGd2 := e4.kp _ _ (fun z => z) hGd
        have hJd2 := e4.out hJd (by rw [hGd]; simp)
        refine s_ret (M := M0) (R := dP (dT dI) dRef) (x := (capsOf (many, lots), d)) (e_pair (e_var (Mono.up q2 (e2.ii.trans (s2.trans e4.ii)))) (e_var (R := dRef) (x := d) rfl)) e4.si True.intro (fun v J3 G3 e c r => ?_)
        exact k v d ws J3 G3 (e5.trans e) hd0 (e.out hJd2 (by rw [hGd2]; simp)) (e.kp _ _ (fun z => z) hGd2) (paired_up pw (e4.ii.trans e.ii)) r
end
end KK

namespace KK
open PySem PySem.Spec PyProof.Rows L2 RZ DL
theorem isOut_in {p : Kd} {s : List Int} {k : Int} (hp : LotsOk p.1 p.2) (hs : s.length = p.1.toNat) (hk : KindOk p k) : isOut p.2 s k = !inK p s k := by
  have e := out_eq hp.kok hs hk.1 hk.2
  unfold inK stepK
  rw [e]
  cases isOut p.2 s k <;> rfl
theorem fares {p : Kd} {s : List Int} {a b : Int} : decide ([!inK p s a, !inK p (onK p s a) b] = [!inK p (onK p s b) a, !inK p s b]) = alikeK p s a b := by
  rw [Bool.eq_iff_iff, decide_eq_true_iff, alike_iff]
  simp
section
variable {P : Program} {w : World} {K : PySem.W.Frag} {mg : Str → Option Value} {base : Heap}
theorem s_stands {σ : L2.St} {I H : Hp} {g : TG} {ta : TA} {E : Ends} {Γ : L2.St → List Int × Addr → Hp → L2.St → Prop} {many : Int} {lots : List (List Int)} (ha : DA M0 ta σ I H (aCons dI (aCons (dT (dT dI)) aNil)) (many, lots, ())) (hp : LotsOk many lots) (hg : Bind g (dP (dT dI) dRef) Γ) (s : Sub I H)
    (k : ∀ σ2 d ws I1 H1, Ex0 I H I1 H1 → H d = none → I1 d = none → H1 d = some (.dT (rowsD ws (allStates (many, lots)))) → Paired (dT dI I1) ws ((allStates (many, lots)).map Prod.snd) → Γ σ (capsOf (many, lots), d) I1 σ2 → E.nx σ2 H1) : tAsg (tCall spD_stands [] L2.E0 ta) g E σ H :=
  ha I H (Ex.refl s) True.intro _ fun vs I2 H2 e2 c2 q => ⟨I2, _, e2.si, by rw [List.append_nil]; exact q, hp, fun v d ws I' H' e3 h1 h2 h3 h4 h5 => hg σ I' H' v _ e3.si h5 _ fun σ2 hσ => k σ2 d ws I' H' (e2.trans e3) (by
    cases g : H d with
    | none => rfl
    | some u => exact absurd h1 (e2.dm d (by rw [g]; simp))) h2 h3 h4 hσ⟩
end
end KK

/-! pairs of stands, of a row and of it with one more comer: the search of all, the first that calls back -/
namespace KK
open PySem PySem.Spec PyProof.Rows L2 RZ DL
abbrev Tr := List Int × Int × Int
abbrev It := Pr × Tr
def putW (ws : List It) (x : It) : List It := if x.1 ∈ ws.map Prod.fst then ws else ws ++ [x]
def longerW (t : Tr) (k : Int) : Tr := (t.1 ++ [k], t.2.1, t.2.2)
def nextP (p : Kd) (r : Pr) (k : Int) : Pr := (onK p r.1 k, onK p r.2 k)
def nextW (p : Kd) (x : It) (k : Int) : It := (nextP p x.1 k, longerW x.2 k)
def backW (p : Kd) (r : Pr) (k : Int) : Bool := inK p r.2 k && !inK p r.1 k
def headW (p : Kd) (q : List Int × List Int) (k : Int) : It := ((q.1, onK p q.1 k), (q.2, ((q.2.length : Nat) : Int), k))
def firstW (p : Kd) : List It := ((allStates p).map fun q => (rng p.1).map (headW p q)).flatten
def startW (p : Kd) : List It := (firstW p).foldl putW []
def turnW (p : Kd) (x : It) (ws : List It) : List It := ((rng p.1).map (nextW p x)).foldl putW ws
def bfsW (p : Kd) : Nat → Nat → List It → List It
  | 0, _, ws => ws
  | n + 1, i, ws => match ws[i]? with
    | none => ws
    | some x => bfsW p n (i + 1) (turnW p x ws)
def scanW (p : Kd) (x : It) : List Int → List It → List It × Option Tr
  | [], ws => (ws, none)
  | k :: ks, ws => if backW p x.1 k = true then (ws, some (longerW x.2 k)) else scanW p x ks (putW ws (nextW p x k))
def searchW (p : Kd) : Nat → Nat → List It → List It × Option Tr
  | 0, _, ws => (ws, none)
  | n + 1, i, ws => match ws[i]? with
    | none => (ws, none)
    | some x => match scanW p x (rng p.1) ws with
      | (vs, some t) => (vs, some t)
      | (vs, none) => searchW p n (i + 1) vs
def lawW (p : Kd) : Nat → Nat → Bool → List It → Bool × List It
  | 0, _, b, ws => (b, ws)
  | n + 1, i, b, ws => match ws[i]? with
    | none => (b, ws)
    | some x => lawW p n (i + 1) (b && !(rng p.1).any (backW p x.1)) (turnW p x ws)
@[irreducible] def allW (p : Kd) : List It := bfsW p 15626 0 (startW p)
@[irreducible] def foundW (p : Kd) : List It × Option Tr := searchW p 15626 0 (startW p)
theorem allW_is (p : Kd) : allW p = bfsW p 15626 0 (startW p) := by unfold allW; rfl
theorem foundW_is (p : Kd) : foundW p = searchW p 15626 0 (startW p) := by unfold foundW; rfl
section
variable {p : Kd}
theorem put_pre (ws : List It) (x : It) : ws <+: putW ws x := by
  unfold putW
  split
  · exact List.prefix_refl _
  · exact List.prefix_append _ _
theorem put_in (ws : List It) (x : It) : x.1 ∈ (putW ws x).map Prod.fst := by
  unfold putW
  split
  · assumption
  · simp
theorem puts_pre : ∀ (xs ws : List It), ws <+: xs.foldl putW ws
  | [], ws => List.prefix_refl _
  | x :: xs, ws => (put_pre ws x).trans (puts_pre xs (putW ws x))
theorem pre_fst {ws vs : List It} {r : Pr} (h : ws <+: vs) (hr : r ∈ ws.map Prod.fst) : r ∈ vs.map Prod.fst := by
  obtain ⟨m, rfl⟩ := h
  rw [List.map_append]
  exact List.mem_append_left _ hr
theorem pre_at {ws vs : List It} {i : Nat} {x : It} (h : ws <+: vs) (hi : ws[i]? = some x) : vs[i]? = some x := by
  obtain ⟨m, rfl⟩ := h
  rw [List.getElem?_append_left (List.getElem?_eq_some_iff.mp hi).1]
  exact hi
theorem puts_in : ∀ (xs ws : List It), ∀ x ∈ xs, x.1 ∈ (xs.foldl putW ws).map Prod.fst
  | y :: xs, ws, x, hx => by
    rcases List.mem_cons.mp hx with e | hx
    · rw [e]
      exact pre_fst (puts_pre xs _) (put_in ws y)
    · exact puts_in xs _ x hx
/-! ### scanning -/
theorem scan_none {x : It} : ∀ {ks : List Int} {ws : List It}, (∀ k ∈ ks, backW p x.1 k = false) → scanW p x ks ws = ((ks.map (nextW p x)).foldl putW ws, none)
  | [], ws, _ => rfl
  | k :: ks, ws, h => by
    rw [scanW, if_neg (by rw [h k (List.mem_cons_self ..)]; exact Bool.false_ne_true)]
    exact scan_none fun j hj => h j (List.mem_cons_of_mem _ hj)
theorem scan_some {x : It} : ∀ {ks : List Int} {ws : List It} {i : Nat} (hi : i < ks.length), (∀ k ∈ ks.take i, backW p x.1 k = false) → backW p x.1 ks[i] = true → scanW p x ks ws = (((ks.take i).map (nextW p x)).foldl putW ws, some (longerW x.2 ks[i]))
  | k :: ks, ws, 0, hi, _, h => by
    have h' : backW p x.1 k = true := h
    rw [scanW, if_pos h']
    rfl
  | k :: ks, ws, i + 1, hi, h0, h => by
    rw [scanW, if_neg (by rw [h0 k (by simp)]; exact Bool.false_ne_true)]
    exact scan_some (i := i) (by simpa using hi) (fun j hj => h0 j (by simp [hj])) h
theorem scan_any {x : It} {ks : List Int} {ws : List It} : (scanW p x ks ws).2.isNone = !ks.any (backW p x.1) := by
  induction ks generalizing ws with
  | nil => rfl
  | cons k ks ih =>
    rw [scanW]
    cases h : backW p x.1 k with
    | true => rw [if_pos rfl, List.any_cons, h]; rfl
    | false => rw [if_neg Bool.false_ne_true, List.any_cons, h, ih]; rfl
theorem law_out : ∀ (n i : Nat) (ws : List It), (lawW p n i false ws).1 = false
  | 0, _, _ => rfl
  | n + 1, i, ws => by
    unfold lawW
    cases ws[i]? with
    | none => rfl
    | some x =>
      simp only [Bool.false_and]
      exact law_out n _ _
theorem law_list : ∀ (n i : Nat) (b : Bool) (ws : List It), (lawW p n i b ws).2 = bfsW p n i ws
  | 0, _, _, _ => rfl
  | n + 1, i, b, ws => by
    unfold lawW bfsW
    cases ws[i]? with
    | none => rfl
    | some x => exact law_list n _ _ _
theorem search_law : ∀ (n i : Nat) (ws : List It), (searchW p n i ws).2.isNone = (lawW p n i true ws).1 ∧ ((searchW p n i ws).2 = none → (searchW p n i ws).1 = bfsW p n i ws)
  | 0, _, _ => ⟨rfl, fun _ => rfl⟩
  | n + 1, i, ws => by
    unfold searchW lawW bfsW
    cases hx : ws[i]? with
    | none => exact ⟨rfl, fun _ => rfl⟩
    | some x =>
      simp only
      have sa := scan_any (p := p) (x := x) (ks := rng p.1) (ws := ws)
      cases h : (rng p.1).any (backW p x.1) with
      | true =>
        rw [h] at sa
        cases hs : scanW p x (rng p.1) ws with
        | mk vs o =>
          rw [hs] at sa
          cases o with
          | none => cases sa
          | some t => exact ⟨(law_out n _ _).symm, fun z => by cases z⟩
      | false =>
        have hn : scanW p x (rng p.1) ws = (turnW p x ws, none) := scan_none fun k hk => by
          cases hb : backW p x.1 k with
          | false => rfl
          | true => rw [List.any_eq_true.mpr ⟨k, hk, hb⟩] at h; cases h
        rw [hn]
        exact search_law n (i + 1) _
/-- both searches -/
theorem found_law : (foundW p).2.isNone = (lawW p 15626 0 true (startW p)).1 := by rw [foundW_is]; exact (search_law _ _ _).1
theorem found_all (h : (foundW p).2 = none) : (foundW p).1 = allW p := by
  rw [foundW_is] at h ⊢
  rw [allW_is]
  exact (search_law _ _ _).2 h
theorem law_all : (lawW p 15626 0 true (startW p)).2 = allW p := by rw [allW_is, law_list]
end
/-! ### what the search keeps -/
structure SrchW (p : Kd) (ws : List It) : Prop where
  nd : (ws.map Prod.fst).Nodup
  ok : ∀ x ∈ ws, StOk p x.1.1 ∧ StOk p x.1.2
  short : ∀ (i : Nat) (x : It), ws[i]? = some x → x.2.1.length ≤ 125 + i
def univ2 (n : Nat) : List Pr := ((univ n).map fun a => (univ n).map fun b => (a, b)).flatten
theorem univ2_len (n : Nat) : (univ2 n).length = (univ n).length * (univ n).length := by
  have key : ∀ l m : List (List Int), ((l.map fun a => m.map fun b => (a, b)).flatten).length = l.length * m.length := fun l m => by
    induction l with
    | nil => simp
    | cons r l ih => rw [List.map_cons, List.flatten_cons, List.length_append, ih, List.length_map, List.length_cons, Nat.succ_mul, Nat.add_comm]
  exact key _ _
section
variable {p : Kd}
theorem SrchW.few {ws : List It} (h : SrchW p ws) (hp : LotsOk p.1 p.2) : ws.length ≤ 15625 := by
  have q := nodup_le (m := univ2 p.1.toNat) h.nd fun s hs => by
    obtain ⟨x, hx, rfl⟩ := List.mem_map.mp hs
    have o := h.ok x hx
    exact List.mem_flatten.mpr ⟨_, List.mem_map.mpr ⟨x.1.1, univ_mem o.1.len o.1.cap, rfl⟩, List.mem_map.mpr ⟨x.1.2, univ_mem o.2.len o.2.cap, rfl⟩⟩
  rw [univ2_len, univ_len, List.length_map] at q
  have lo := hp.lo
  have hi := hp.hi
  have e : p.1.toNat = 1 ∨ p.1.toNat = 2 ∨ p.1.toNat = 3 := by omega
  rcases e with e | e | e <;> rw [e] at q <;> omega
theorem put_good {ws : List It} {x : It} (h : SrchW p ws) (ho : StOk p x.1.1 ∧ StOk p x.1.2) (hs : x.2.1.length ≤ 125 + ws.length) : SrchW p (putW ws x) := by
  unfold putW
  split
  · exact h
  · rename_i hn
    refine ⟨?_, fun y hy => ?_, fun j y hj => ?_⟩
    · rw [List.map_append]
      refine List.nodup_append.mpr ⟨h.nd, by simp, fun a ha b hb e => hn ?_⟩
      have hb' : b = x.1 := by simpa using hb
      rw [← hb', ← e]
      exact ha
    · rcases List.mem_append.mp hy with z | z
      · exact h.ok y z
      · rw [List.mem_singleton.mp z]; exact ho
    · by_cases hj' : j < ws.length
      · rw [List.getElem?_append_left hj'] at hj
        exact h.short j y hj
      · rw [List.getElem?_append_right (by omega)] at hj
        have e : j - ws.length = 0 := by
          cases e : j - ws.length with
          | zero => rfl
          | succ n => rw [e] at hj; cases hj
        rw [e] at hj
        cases hj
        omega
theorem puts_good : ∀ {xs ws : List It}, SrchW p ws → (∀ x ∈ xs, (StOk p x.1.1 ∧ StOk p x.1.2) ∧ x.2.1.length ≤ 125 + ws.length) → SrchW p (xs.foldl putW ws)
  | [], _, h, _ => h
  | x :: xs, ws, h, hx => by
    have a := hx x (List.mem_cons_self ..)
    refine puts_good (xs := xs) (put_good h a.1 a.2) fun y hy => ?_
    have b := hx y (List.mem_cons_of_mem _ hy)
    have l := (put_pre ws x).length_le
    exact ⟨b.1, by omega⟩
theorem first_ok (hp : LotsOk p.1 p.2) : ∀ x ∈ firstW p, (StOk p x.1.1 ∧ StOk p x.1.2) ∧ x.2.1.length ≤ 125 := fun x hx => by
  obtain ⟨l, hl, hx⟩ := List.mem_flatten.mp hx
  obtain ⟨q, hq, rfl⟩ := List.mem_map.mp hl
  obtain ⟨k, hk, rfl⟩ := List.mem_map.mp hx
  have b := mem_rng hk
  obtain ⟨g, _⟩ := all_good hp
  obtain ⟨i, hi, e⟩ := List.getElem_of_mem hq
  have sh := g.short i q (by rw [List.getElem?_eq_getElem hi, e])
  have few := g.few hp
  exact ⟨⟨(g.ok q hq).1, step_ok hp (g.ok q hq).1 b.1 b.2⟩, by show q.2.length ≤ 125; omega⟩
theorem empty_good : SrchW p [] := ⟨List.nodup_nil, fun _ h => (nomatch h), fun i x h => by cases h⟩
theorem start_good (hp : LotsOk p.1 p.2) : SrchW p (startW p) := puts_good empty_good fun x hx => ⟨(first_ok hp x hx).1, by have := (first_ok hp x hx).2; omega⟩
theorem nexts_good (hp : LotsOk p.1 p.2) {ws : List It} {i : Nat} {x : It} (h : SrchW p ws) (hi : ws[i]? = some x) {ks : List Int} (hk : ∀ k ∈ ks, 0 ≤ k ∧ k < p.1) : SrchW p ((ks.map (nextW p x)).foldl putW ws) := puts_good h fun y hy => by
  obtain ⟨k, hk', rfl⟩ := List.mem_map.mp hy
  have b := hk k hk'
  have o := h.ok x (List.mem_of_getElem? hi)
  have lt : i < ws.length := (List.getElem?_eq_some_iff.mp hi).1
  have sh := h.short i x hi
  refine ⟨⟨step_ok hp o.1 b.1 b.2, step_ok hp o.2 b.1 b.2⟩, ?_⟩
  show (x.2.1 ++ [k]).length ≤ _
  rw [List.length_append, List.length_singleton]
  omega
theorem turnW_good (hp : LotsOk p.1 p.2) {ws : List It} {i : Nat} {x : It} (h : SrchW p ws) (hi : ws[i]? = some x) : SrchW p (turnW p x ws) := nexts_good hp h hi fun k hk => mem_rng hk
def ClosedW (p : Kd) (i : Nat) (ws : List It) : Prop := ∀ j x, j < i → ws[j]? = some x → ∀ k, 0 ≤ k → k < p.1 → nextP p x.1 k ∈ ws.map Prod.fst
theorem bfsW_good (hp : LotsOk p.1 p.2) : ∀ (n i : Nat) {ws : List It}, SrchW p ws → i ≤ ws.length → ClosedW p i ws → 15626 ≤ n + i → SrchW p (bfsW p n i ws) ∧ ws <+: bfsW p n i ws ∧ ClosedW p (bfsW p n i ws).length (bfsW p n i ws)
  | 0, i, ws, h, hi, _, hn => by have := h.few hp; omega
  | n + 1, i, ws, h, hi, c, hn => by
    unfold bfsW
    cases e : ws[i]? with
    | none =>
      have : ws.length ≤ i := List.getElem?_eq_none_iff.mp e
      have ei : i = ws.length := by omega
      exact ⟨h, List.prefix_refl _, ei ▸ c⟩
    | some x =>
      have g1 := turnW_good hp h e
      have g2 : ws <+: turnW p x ws := puts_pre _ _
      have l1 := g2.length_le
      have l2 := (List.getElem?_eq_some_iff.mp e).1
      have g3 : ClosedW p (i + 1) (turnW p x ws) := fun j y hj hy k h0 h1 => by
        have hlt : j < ws.length := by omega
        have ey : ws[j]? = some y := by
          obtain ⟨m, em⟩ := g2
          rw [← em, List.getElem?_append_left hlt] at hy
          exact hy
        by_cases hji : j < i
        · exact pre_fst g2 (c j y hji ey k h0 h1)
        · have ej : j = i := by omega
          rw [ej, e] at ey
          cases ey
          exact puts_in _ ws (nextW p x k) (List.mem_map.mpr ⟨k, rng_in h0 h1, rfl⟩)
      obtain ⟨r1, r2, r3⟩ := bfsW_good hp n (i + 1) g1 (by omega) g3 (by omega)
      exact ⟨r1, g2.trans r2, r3⟩
theorem allW_good (hp : LotsOk p.1 p.2) : SrchW p (allW p) ∧ startW p <+: allW p ∧ ∀ r ∈ (allW p).map Prod.fst, ∀ k, 0 ≤ k → k < p.1 → nextP p r k ∈ (allW p).map Prod.fst := by
  obtain ⟨g, f, c⟩ := bfsW_good hp 15626 0 (start_good hp) (Nat.zero_le _) (fun j q h => absurd h (Nat.not_lt_zero _)) (by omega)
  rw [← allW_is] at g f c
  refine ⟨g, f, fun r hr k h0 h1 => ?_⟩
  obtain ⟨x, hx, rfl⟩ := List.mem_map.mp hr
  obtain ⟨i, hi, e⟩ := List.getElem_of_mem hx
  exact c i x hi (by rw [List.getElem?_eq_getElem hi, e]) k h0 h1
/-- of a row and of it with one more comer -/
theorem pair_in (hp : LotsOk p.1 p.2) {a b : List Int} {k : Int} (ha : ∀ c ∈ a, 0 ≤ c ∧ c < p.1) (hk : 0 ≤ k ∧ k < p.1) (hb : ∀ c ∈ b, 0 ≤ c ∧ c < p.1) : ((runK p (begin_ p) (a ++ b)).2, (runK p (begin_ p) (a ++ [k] ++ b)).2) ∈ (allW p).map Prod.fst := by
  obtain ⟨_, f, c⟩ := allW_good hp
  revert hb
  refine snoc_ind (P := fun b => (∀ c ∈ b, 0 ≤ c ∧ c < p.1) → ((runK p (begin_ p) (a ++ b)).2, (runK p (begin_ p) (a ++ [k] ++ b)).2) ∈ (allW p).map Prod.fst) (fun _ => ?_) (fun b j ih hb => ?_) b
  · rw [List.append_nil, List.append_nil, runK_snoc]
    obtain ⟨q, hq, e⟩ := List.mem_map.mp (reached hp ha)
    refine pre_fst f ?_
    have hm : headW p q k ∈ firstW p := List.mem_flatten.mpr ⟨_, List.mem_map.mpr ⟨q, hq, rfl⟩, List.mem_map.mpr ⟨k, rng_in hk.1 hk.2, rfl⟩⟩
    have z := puts_in (firstW p) [] _ hm
    rw [← e]
    exact z
  · have hj := hb j (by simp)
    have z := c _ (ih fun x hx => hb x (List.mem_append_left _ hx)) j hj.1 hj.2
    rw [← List.append_assoc, ← List.append_assoc, runK_snoc, runK_snoc]
    exact z
end
end KK

/-! the defs that search all pairs -/
namespace KK
open PySem PySem.Spec PyProof.Rows L2 RZ DL
abbrev dTr : Rel Tr := dQ (dT dI) dI dI
abbrev dIt : Rel It := dP dPr dTr
theorem flat_len {α β : Type} {f : α → List β} {n : Nat} : ∀ {xs : List α}, (∀ x ∈ xs, (f x).length ≤ n) → (xs.map f).flatten.length ≤ xs.length * n
  | [], _ => by simp
  | x :: xs, h => by
    have ih := flat_len (xs := xs) fun y hy => h y (List.mem_cons_of_mem _ hy)
    have a := h x (List.mem_cons_self ..)
    rw [List.map_cons, List.flatten_cons, List.length_append, List.length_cons, Nat.succ_mul]
    omega
section
variable {P : Program} {w : World} {K : PySem.W.Frag} {mg : Str → Option Value} {base : Heap}
abbrev sp_longer : Sp := DL.sp (aCons dTr (aCons dI aNil)) (fun x => x.1.1.length < 100000) dTr (fun x => longerW x.1 x.2.1)
abbrev s_longer : Stmt := topS 30
abbrev N_longer : List Str := ["told", "kind"]
theorem sc_longer : FnScope N_longer ["told", "kind"] (defScope s_longer) := ⟨rfl, rfl, rfl, by decide +kernel, rfl, by decide +kernel, by decide +kernel⟩
theorem mk_longer {f : Addr} {fd : FuncData} (F : Df K mg "longer" s_longer ["told", "kind"] f fd) (T : Txt mg) : Cal P w K mg base 1 "longer" sp_longer := by
  refine Cal.of F (F.fn.ok sc_longer (fun vs H Q E h => ?_) (fun cdv A outer s H vs Q E hr h => ?_))
  · obtain ⟨I, x, si, ⟨v0, _, rfl, r0, v1, _, rfl, r1, rfl⟩, hp, k⟩ := h
    rfl
  · obtain ⟨I, ⟨t, k0, ⟨⟩⟩, si, ⟨v0, _, rfl, r0, v1, _, rfl, r1, rfl⟩, hp, k⟩ := h
    replace hp : t.1.length < 100000 := hp
    dsimp only at *
    refine ⟨_, (pss_one (ps_ret (pe_tup (pa_cons (pe_op (kcatT K) (pe_ix (kixT K) (pv 0) pe_int (fun _ _ => rfl)) (pe_tup (pa_cons (pv 1) pa_nil))) (pa_cons (pe_ix (kixT K) (pv 0) pe_int (fun _ _ => rfl)) (pa_cons (pe_ix (kixT K) (pv 0) pe_int (fun _ _ => rfl)) pa_nil)))))), ?_⟩
    exact s_ret (M := M0) (e_trip (e_catT (e_q0 (e_var r0)) (e_tup (l_cons (e_var r1) l_nil)) (by rw [sizeLine_eq]; show t.1.length + 1 ≤ _; omega)) (e_q1 (e_var r0)) (e_q2 (e_var r0))) si True.intro (fun v J G e c r => k v J G e r)
abbrev sp_first_pairs (C : Addr) : Sp := DL.sp (aCons (dKinds C) aNil) (fun x => LotsOk x.1.1 x.1.2) (dL dIt) (fun x => firstW x.1)
abbrev s_first_pairs : Stmt := topS 29
abbrev N_first_pairs : List Str := ["kinds", "found", "state", "row", "kind"]
theorem sc_first_pairs : FnScope N_first_pairs ["kinds"] (defScope s_first_pairs) := ⟨rfl, rfl, rfl, by decide +kernel, rfl, by decide +kernel, by decide +kernel⟩
theorem mk_first_pairs {C f : Addr} {fd : FuncData} (F : Df K mg "first_pairs" s_first_pairs ["kinds"] f fd) (T : Txt mg) (KC : KindsC K C) (c_all_states : Cal P w K mg base 4 "all_states" (sp_all_states C)) (c_step : Cal P w K mg base 3 "step" (sp_step C)) : Cal P w K mg base 5 "first_pairs" (sp_first_pairs C) := by
  refine Cal.of F (F.fn.ok sc_first_pairs (fun vs H Q E h => ?_) (fun cdv A outer s H vs Q E hr h => ?_))
  · obtain ⟨I, x, si, ⟨v0, _, rfl, r0, rfl⟩, hp, k⟩ := h
    rfl
  · obtain ⟨I, ⟨p, ⟨⟩⟩, si, ⟨v0, _, rfl, r0, rfl⟩, hp, k⟩ := h
    replace hp : LotsOk p.1 p.2 := hp
    dsimp only at *
    refine ⟨_, (pss_cons (ps_set (i := 1) sc_first_pairs.nd rfl (Or.inl rfl) (pe_lst pa_nil))
    (pss_cons (ps_for PassesOwn.never rfl (klist K (pe_c c_all_states hr (by decide) (by rfl) (pa_cons (pv 0) pa_nil))) (kgtup K rfl (pgs_cons (pg_name (i := 2) sc_first_pairs.nd rfl (Or.inl rfl)) (pgs_cons (pg_name (i := 3) sc_first_pairs.nd rfl (Or.inl rfl)) pgs_nil)))
    (pss_one (ps_for PassesOwn.never rfl (pi_range1 rfl T.b_range (pa_cons (kfld K (pv 0)) pa_nil)) (pg_name (i := 4) sc_first_pairs.nd rfl (Or.inl rfl))
    (pss_one (ps_expr (pe_bm PySem.F.plainAttrs_list PySem.F.slot_list_append PySem.F.type_list_append mt_append (pv 1) (pa_cons (pe_tup (pa_cons (pe_tup (pa_cons (pv 2) (pa_cons (pe_ix (kixT K) (pe_c c_step hr (by decide) (by rfl) (pa_cons (pv 0) (pa_cons (pv 2) (pa_cons (pv 4) pa_nil)))) pe_int (fun _ _ => rfl)) pa_nil))) (pa_cons (pe_tup (pa_cons (pv 3) (pa_cons (pe_callB (klen K) (by rfl) T.b_len PySem.boot_len (pa_cons (pv 3) pa_nil)) (pa_cons (pv 4) pa_nil)))) pa_nil))) pa_nil)))))))
    (pss_one (ps_ret (pv 1))))), ?_⟩
    have kok : KOk p := hp.kok
    have lo := hp.lo
    have hi3 := hp.hi
    obtain ⟨good, _⟩ := all_good hp
    have few := good.few hp
    refine s_asgF (M := M0) (R := dIt) (xs := []) (f_lst l_nil) si True.intro (fun a vs0 I1 H1 e1 c1 ha hI1 hH1 pv0 => ?_)
    dsimp only [tSeq]
    refine s_for (M := M0) (s_list (e_call (a_cons (e_var (Mono.up r0 e1.ii)) a_nil) hp)) b_pair e1.si True.intro (fun i σ' J G => Ex0 I H J G ∧ ∃ vs x2 x3 x4, σ' = [some v0, some (.ref a), x2, x3, x4] ∧ J a = none ∧ G a = some (.lst vs) ∧
      Paired (dIt J) vs (((allStates p).take i).map fun q => (rng p.1).map (headW p q)).flatten) ?_ ?_ ?_ ?_
    · rintro j σ' J5 G5 J6 G6 e7 ⟨g0, vs', y2, y3, y4, g2, g3, g4, g7⟩
      exact ⟨g0.trans e7, vs', y2, y3, y4, g2, e7.out g3 (by rw [g4]; simp), e7.kp _ _ (fun z => z) g4, paired_up g7 e7.ii⟩
    · intro J5 G5 e7 c7
      exact ⟨e1.trans e7, vs0, none, none, none, rfl, e7.out hI1 (by rw [hH1]; simp), e7.kp _ _ (fun z => z) hH1, paired_up pv0 e7.ii⟩
    · rintro I0 s0 i hi σ1 σ2 J5 G5 sJ5 sG5 _ ⟨g0, vs, y2, y3, y4, rfl, g3, g4, g7⟩ ⟨v2, v3, rfl, r2, r3⟩
      have okq := good.ok _ (List.getElem_mem hi)
      have shq := good.short i _ (List.getElem?_eq_getElem hi)
      refine s_for (M := M0) (s_rng (e_many KC (e_var (Mono.up r0 g0.ii))) (by omega) (by omega)) b_name sG5 True.intro (fun j σ' J G => Ex0 I H J G ∧ Sub J5 J ∧ ∃ vs x4, σ' = [some v0, some (.ref a), some v2, some v3, x4] ∧ J a = none ∧ G a = some (.lst vs) ∧
        Paired (dIt J) vs ((((allStates p).take i).map fun q => (rng p.1).map (headW p q)).flatten ++ ((rng p.1).take j).map (headW p (allStates p)[i]))) ?_ ?_ ?_ ?_
      · rintro j σ' J6 G6 J7 G7 e7 ⟨h0, h1, vs', y4, h2, h3, h4, h7⟩
        exact ⟨h0.trans e7, h1.trans e7.ii, vs', y4, h2, e7.out h3 (by rw [h4]; simp), e7.kp _ _ (fun z => z) h4, paired_up h7 e7.ii⟩
      · intro J6 G6 e7 c7
        exact ⟨g0.trans e7, e7.ii, vs, y4, rfl, e7.out g3 (by rw [g4]; simp), e7.kp _ _ (fun z => z) g4, by rw [List.take_zero, List.map_nil, List.append_nil]; exact paired_up g7 e7.ii⟩
      · rintro I6 s6 j hj σ1 σ2 J6 G6 sJ6 sG6 _ ⟨h0, h1, vs', y4', rfl, h3, h4, h7⟩ ⟨v4, rfl, r4⟩
        have hk := mem_rng (List.getElem_mem hj)
        have r2' := Mono.up r2 h1
        have r3' := Mono.up r3 h1
        have lt : vs'.length < sizeLine := by
          rw [Paired.length h7, List.length_append, List.length_map, List.length_take, rng_length, sizeLine_eq]
          have := flat_len (f := fun q => (rng p.1).map (headW p q)) (n := 3) (xs := (allStates p).take i) fun q _ => by rw [List.length_map, rng_length]; omega
          rw [List.length_take] at this
          omega
        refine s_append (M := M0) (R := dIt) rfl h4 h3 (fun z => z) (e_pair (e_pair (e_var r2') (e_ix1 (e_call (a_cons (e_var (Mono.up r0 h0.ii)) (a_cons (e_var r2') (a_cons (e_var r4) a_nil))) ⟨kok, okq.1.len, hk.1, hk.2⟩))) (e_trip (e_var r3') (e_lenT (e_var r3')) (e_var r4))) sG6 True.intro lt (fun u J9 G9 e11 c11 k1 k2 ru => ?_)
        have x9 := (h0.trans e11).put (o := .lst (vs' ++ [u])) (.inr ha) k2
        refine ⟨J9, sJ6.trans e11.ii, x9.si, True.intro, x9, h1.trans e11.ii, vs' ++ [u], _, rfl, k2, upd_same, ?_⟩
        rw [take_snoc hj, List.map_append, ← List.append_assoc]
        exact paired_app (paired_up h7 e11.ii) (.cons ru .nil)
      · rintro σ1 J6 G6 sJ6 sG6 _ ⟨h0, h1, vs', y4', rfl, h3, h4, h7⟩
        rw [List.take_length] at h7
        refine ⟨J6, sJ5.trans h1, sG6, True.intro, h0, vs', _, _, _, rfl, h3, h4, ?_⟩
        rw [take_snoc hi, List.map_append, List.flatten_append]
        show Paired _ _ (_ ++ ((rng p.1).map (headW p (allStates p)[i]) ++ []))
        rw [List.append_nil]
        exact h7
    · rintro σ1 J5 G5 sJ5 sG5 _ ⟨g0, vs, y2, y3, y4, rfl, g3, g4, g7⟩
      rw [List.take_length] at g7
      have z := g0.seal ha g4 g3
      exact s_ret (M := M0) (R := dL dIt) (x := firstW p) (e_var ⟨a, vs, rfl, upd_same, paired_up g7 (Sub.in_ g3)⟩) z.si True.intro (fun v J3 G3 e c r => k v J3 G3 (z.trans e) r)
end
end KK

namespace KK
open PySem PySem.Spec PyProof.Rows L2 RZ DL
theorem putW_new {ws : List It} {x : It} (h : x.1 ∉ ws.map Prod.fst) : putW ws x = ws ++ [x] := if_neg h
theorem putW_old {ws : List It} {x : It} (h : x.1 ∈ ws.map Prod.fst) : putW ws x = ws := if_pos h
theorem search_end {p : Kd} {n i : Nat} {ws : List It} (h : ws.length ≤ i) : searchW p n i ws = (ws, none) := by
  cases n with
  | zero => rfl
  | succ n => unfold searchW; rw [List.getElem?_eq_none h]
theorem search_hit {p : Kd} {n i j : Nat} {ws : List It} {x : It} (hi : ws[i]? = some x) (hj : j < (rng p.1).length) (h0 : ∀ k ∈ (rng p.1).take j, backW p x.1 k = false) (h : backW p x.1 (rng p.1)[j] = true) : searchW p (n + 1) i ws = ((((rng p.1).take j).map (nextW p x)).foldl putW ws, some (longerW x.2 (rng p.1)[j])) := by
  unfold searchW
  rw [hi]
  simp only
  rw [scan_some hj h0 h]
theorem search_on {p : Kd} {n i : Nat} {ws : List It} {x : It} (hi : ws[i]? = some x) (h0 : ∀ k ∈ rng p.1, backW p x.1 k = false) : searchW p (n + 1) i ws = searchW p n (i + 1) (turnW p x ws) := by
  rw [searchW, hi]
  simp only
  rw [scan_none h0]
  rfl
section
variable {P : Program} {w : World} {K : PySem.W.Frag} {mg : Str → Option Value} {base : Heap}
/-- the cells of a search: the dict d and the list a stand for ws -/
structure Cells2 (P : Program) (w : World) (d a : Addr) (ws : List It) (J G : Hp) (es : List NE) (vs : List V) : Prop where
  ja : J a = none
  ga : G a = some (.lst vs)
  jd : J d = none
  gd : G d = some (dNs P w d es)
  ks : ∀ q ∈ es, KeyAt J q
  pv : Paired (dIt J) vs ws
  fe : es.map (·.1) = ws.map Prod.fst
theorem Cells2.ext {d a : Addr} {ws : List It} {J G J' G' : Hp} {es : List NE} {vs : List V} (h : Cells2 P w d a ws J G es vs) (e : Ex0 J G J' G') : Cells2 P w d a ws J' G' es vs :=
  ⟨e.out h.ja (by rw [h.ga]; simp), e.kp _ _ (fun z => z) h.ga, e.out h.jd (by rw [h.gd]; simp), e.kp _ _ (fun z => z) h.gd, fun q hq => (h.ks q hq).up e.ii, paired_up h.pv e.ii, h.fe⟩
abbrev sp_search (P : Program) (w : World) (C : Addr) : Sp := DL.sp (aCons (dKinds C) aNil) (fun x => LotsOk x.1.1 x.1.2) (dP (dNd P w) (dO dTr)) (fun x => ((foundW x.1).1.map Prod.fst, (foundW x.1).2))
abbrev s_search : Stmt := topS 31
abbrev N_search : List Str := ["kinds", "known", "waiting", "pair", "told", "done", "kind", "first", "second", "goal"]
theorem sc_search : FnScope N_search ["kinds"] (defScope s_search) := ⟨rfl, rfl, rfl, by decide +kernel, rfl, by decide +kernel, by decide +kernel⟩
theorem mk_search {C f : Addr} {fd : FuncData} (F : Df K mg "search" s_search ["kinds"] f fd) (T : Txt mg) (KC : KindsC K C) (c_first_pairs : Cal P w K mg base 5 "first_pairs" (sp_first_pairs C)) (c_longer : Cal P w K mg base 1 "longer" sp_longer) (c_step : Cal P w K mg base 3 "step" (sp_step C)) : Cal P w K mg base 6 "search" (sp_search P w C) := by
  refine Cal.of F (F.fn.ok sc_search (fun vs H Q E h => ?_) (fun cdv A outer s H vs Q E hr h => ?_))
  · obtain ⟨I, x, si, ⟨v0, _, rfl, r0, rfl⟩, hp, k⟩ := h
    rfl
  · obtain ⟨I, ⟨p, ⟨⟩⟩, si, ⟨v0, _, rfl, r0, rfl⟩, hp, k⟩ := h
    replace hp : LotsOk p.1 p.2 := hp
    dsimp only at *
    refine ⟨_, (pss_cons (ps_set (i := 1) sc_search.nd rfl (Or.inl rfl) pe_nsNew)
    (pss_cons (ps_set (i := 2) sc_search.nd rfl (Or.inl rfl) (pe_lst pa_nil))
    (pss_cons (ps_for PassesOwn.never rfl (klist K (pe_c c_first_pairs hr (by decide) (by rfl) (pa_cons (pv 0) pa_nil))) (kgtup K rfl (pgs_cons (pg_name (i := 3) sc_search.nd rfl (Or.inl rfl)) (pgs_cons (pg_name (i := 4) sc_search.nd rfl (Or.inl rfl)) pgs_nil)))
    (pss_one (ps_if (pt_cmp (pc_nsNotIn (P := P) (w := w) hr.units (pv 3) (pv 1))) (pss_cons (ps_nsPut (P := P) (w := w) hr.units (pv 1) (pv 3) pe_bl rfl)
    (pss_one (ps_expr (pe_bm PySem.F.plainAttrs_list PySem.F.slot_list_append PySem.F.type_list_append mt_append (pv 2) (pa_cons (pe_tup (pa_cons (pv 3) (pa_cons (pv 4) pa_nil))) pa_nil))))) pss_nil)))
    (pss_cons (ps_set (i := 5) sc_search.nd rfl (Or.inl rfl) pe_int)
    (pss_cons (ps_while PassesOwn.never (pt_cmpR op_lt (pv 5) (pe_callB (klen K) (by rfl) T.b_len PySem.boot_len (pa_cons (pv 2) pa_nil)) (nomark _))
    (pss_cons (ps_asg (pe_ix (kixL K) (pv 2) (pv 5) (fun _ _ => rfl)) (kgtup K rfl (pgs_cons (pg_name (i := 3) sc_search.nd rfl (Or.inl rfl)) (pgs_cons (pg_name (i := 4) sc_search.nd rfl (Or.inl rfl)) pgs_nil))))
    (pss_cons (ps_aug (i := 5) sc_search.nd rfl (Or.inl rfl) pe_int ip_add)
    (pss_one (ps_for PassesOwn.never rfl (pi_range1 rfl T.b_range (pa_cons (kfld K (pv 0)) pa_nil)) (pg_name (i := 6) sc_search.nd rfl (Or.inl rfl))
    (pss_cons (ps_par (i := 7) (j := 8) rfl sc_search.nd rfl rfl (by decide) rfl rfl (pa_cons (pe_c c_step hr (by decide) (by rfl) (pa_cons (pv 0) (pa_cons (pe_ix (kixT K) (pv 3) pe_int (fun _ _ => rfl)) (pa_cons (pv 6) pa_nil)))) (pa_cons (pe_c c_step hr (by decide) (by rfl) (pa_cons (pv 0) (pa_cons (pe_ix (kixT K) (pv 3) pe_int (fun _ _ => rfl)) (pa_cons (pv 6) pa_nil)))) pa_nil)) rfl)
    (pss_cons (ps_if (PW.pt (pw_and (pt_val (pe_ix (kixT K) (pv 8) pe_int (fun _ _ => rfl))) (pw_and1 (pt_not (pt_val (pe_ix (kixT K) (pv 7) pe_int (fun _ _ => rfl))))))) (pss_one (ps_ret (pe_tup (pa_cons (pv 1) (pa_cons (pe_c c_longer hr (by decide) (by rfl) (pa_cons (pv 4) (pa_cons (pv 6) pa_nil))) pa_nil))))) pss_nil)
    (pss_cons (ps_set (i := 9) sc_search.nd rfl (Or.inl rfl) (pe_tup (pa_cons (pe_ix (kixT K) (pv 7) pe_int (fun _ _ => rfl)) (pa_cons (pe_ix (kixT K) (pv 8) pe_int (fun _ _ => rfl)) pa_nil))))
    (pss_one (ps_if (pt_cmp (pc_nsNotIn (P := P) (w := w) hr.units (pv 9) (pv 1))) (pss_cons (ps_nsPut (P := P) (w := w) hr.units (pv 1) (pv 9) pe_bl rfl)
    (pss_one (ps_expr (pe_bm PySem.F.plainAttrs_list PySem.F.slot_list_append PySem.F.type_list_append mt_append (pv 2) (pa_cons (pe_tup (pa_cons (pv 9) (pa_cons (pe_c c_longer hr (by decide) (by rfl) (pa_cons (pv 4) (pa_cons (pv 6) pa_nil))) pa_nil))) pa_nil))))) pss_nil))))))))))
    (pss_one (ps_ret (pe_tup (pa_cons (pv 1) (pa_cons pe_non pa_nil)))))))))), ?_⟩
    have kok : KOk p := hp.kok
    have lo := hp.lo
    have hi3 := hp.hi
    refine s_asgNs (M := M0) si True.intro (fun d H1 e1 c1 hd hI1 hH1 => ?_)
    dsimp only [tSeq]
    refine s_asgF (M := M0) (R := dIt) (xs := []) (f_lst l_nil) e1.si True.intro (fun a vs0 I2 H2 e2 c2 ha1 hI2 hH2 pv0 => ?_)
    have ad : a ≠ d := fun z => by rw [z, hH1] at ha1; cases ha1
    have ha : H a = none := by
      cases g : H a with
      | none => rfl
      | some u => exact absurd ha1 (e1.dm a (by rw [g]; simp))
    have e12 := e1.trans e2
    have ev0 : vs0 = [] := by cases pv0; rfl
    subst ev0
    have cell0 : Cells2 P w d a [] I2 H2 [] [] := ⟨hI2, hH2, e2.out hI1 (by rw [hH1]; simp), e2.kp _ _ (fun z => z) hH1, fun _ z => (nomatch z), .nil, rfl⟩
    have fok := first_ok hp
    have putg : ∀ {j : Nat}, SrchW p (((firstW p).take j).foldl putW []) := fun {j} => puts_good empty_good fun x hx => ⟨(fok x (List.mem_of_mem_take hx)).1, by have := (fok x (List.mem_of_mem_take hx)).2; omega⟩
    -- a put of x into both cells
    have puts : ∀ {J J' G G' : Hp} {es : List NE} {vs : List V} {ws : List It} {x : It} {q : Addr} {I9 H9 : Hp} {u : V}, Ex0 I H J G → Cells2 P w d a ws J G es vs → Ex0 J G J' G' → KeyAt J' (x.1, q) → x.1 ∉ ws.map Prod.fst →
        Ex0 J' (upd G' d (dNs P w d (es ++ [(x.1, q)]))) I9 H9 → H9 a = some (.lst vs) → I9 a = none → dIt I9 u x →
        Ex0 I H I9 (upd H9 a (.lst (vs ++ [u]))) ∧ Sub J I9 ∧ Cells2 P w d a (putW ws x) I9 (upd H9 a (.lst (vs ++ [u]))) (es ++ [(x.1, q)]) (vs ++ [u]) := fun {J J' G G' es vs ws x q I9 H9 u} g0 cl e kq hn e9 h9 i9 ru => by
      have jd' := (cl.ext e).jd
      have x1 := ((g0.trans e).put (o := dNs P w d (es ++ [(x.1, q)])) (.inr hd) jd').trans e9
      have x2 := x1.put (o := .lst (vs ++ [u])) (.inr ha) i9
      refine ⟨x2, e.ii.trans e9.ii, i9, upd_same, e9.out jd' (by rw [upd_same]; simp), ?_, fun z hz => ?_, ?_, ?_⟩
      · rw [upd_ne (Ne.symm ad)]
        exact e9.kp _ _ (fun z => z) upd_same
      · rcases List.mem_append.mp hz with hz | hz
        · exact (cl.ks z hz).up (e.ii.trans e9.ii)
        · rw [List.mem_singleton.mp hz]; exact kq.up e9.ii
      · rw [putW_new hn]
        exact paired_app (paired_up cl.pv (e.ii.trans e9.ii)) (.cons ru .nil)
      · rw [putW_new hn, List.map_append, List.map_append, cl.fe]
        rfl
    refine s_for (M := M0) (s_list (e_call (a_cons (e_var (Mono.up r0 e12.ii)) a_nil) hp)) b_pair e2.si True.intro (fun i σ' J G => Ex0 I H J G ∧ ∃ es vs x3 x4 x5 x6 x7 x8 x9, σ' = [some v0, some (.ref d), some (.ref a), x3, x4, x5, x6, x7, x8, x9] ∧ Cells2 P w d a (((firstW p).take i).foldl putW []) J G es vs) ?_ ?_ ?_ ?_
    · rintro j σ' J5 G5 J6 G6 e7 ⟨g0, es, vs, x3, x4, x5, x6, x7, x8, x9, g1, g2⟩
      exact ⟨g0.trans e7, es, vs, x3, x4, x5, x6, x7, x8, x9, g1, g2.ext e7⟩
    · intro J5 G5 e7 c7
      exact ⟨e12.trans e7, [], [], none, none, none, none, none, none, none, rfl, cell0.ext e7⟩
    · rintro I0 s0 i hi σ1 σ2 J5 G5 sJ5 sG5 _ ⟨g0, es, vs, x3, x4, x5, x6, x7, x8, x9, rfl, cl⟩ ⟨v3, v4, rfl, r3, r4⟩
      have tk : ((firstW p).take (i + 1)).foldl putW [] = putW (((firstW p).take i).foldl putW []) (firstW p)[i] := by rw [take_snoc hi, List.foldl_append]; rfl
      have few := (putg (j := i)).few hp
      have le : es.length = (((firstW p).take i).foldl putW []).length := by rw [← List.length_map (f := fun x : NE => x.1), cl.fe, List.length_map]
      have lv := Paired.length cl.pv
      refine s_if (M := M0) (c_val (e_nsNotIn rfl cl.gd (fun z => z) cl.ks (e_var r3))) sG5 True.intro (fun hc J7 G7 e9 c9 => ?_) (fun hc J7 G7 e9 c9 => ?_)
      · have hn : (firstW p)[i].1 ∉ (((firstW p).take i).foldl putW []).map Prod.fst := by rw [← cl.fe]; simpa using hc
        have cl7 := cl.ext e9
        refine s_nsPut (M := M0) rfl cl7.gd cl7.jd (fun z => z) cl7.ks e_bl (e_var (Mono.up r3 e9.ii)) e9.si True.intro (by rw [cl.fe]; exact hn) (by rw [sizeLine_eq]; omega) (fun q J8 G8 e10 c10 g8 g9 kq => ?_)
        have e910 := e9.trans e10
        have cl8 := cl7.ext e10
        refine s_append (M := M0) (R := dIt) rfl (by rw [upd_ne ad]; exact cl8.ga) cl8.ja (fun z => z) (e_pair (e_var (Mono.up r3 e910.ii)) (e_var (Mono.up r4 e910.ii))) (e10.si.cell g9) True.intro (by rw [sizeLine_eq]; omega) (fun u J9 G9 e11 c11 h1 h2 ru => ?_)
        obtain ⟨y1, y2, y3⟩ := puts (x := (firstW p)[i]) g0 cl e910 kq hn e11 h1 h2 ru
        exact ⟨J9, sJ5.trans y2, y1.si, True.intro, y1, _, _, _, _, _, _, _, _, _, rfl, tk ▸ y3⟩
      · have hn : (firstW p)[i].1 ∈ (((firstW p).take i).foldl putW []).map Prod.fst := by rw [← cl.fe]; simpa using hc
        exact ⟨J7, sJ5.trans e9.ii, e9.si, True.intro, g0.trans e9, _, _, _, _, _, _, _, _, _, rfl, by rw [tk, putW_old hn]; exact cl.ext e9⟩
    · rintro σ1 J5 G5 sJ5 sG5 _ ⟨g0, es, vs, x3, x4, x5, x6, x7, x8, x9, rfl, cl⟩
      rw [List.take_length] at cl
      replace cl : Cells2 P w d a (startW p) J5 G5 es vs := cl
      dsimp only [tSeq]
      refine s_asg (M := M0) (R := dI) (x := 0) e_int sG5 True.intro (fun v5 J6 G6 e3 c3 q5 => ?_)
      have ev : v5 = V.int 0 := q5
      subst ev
      refine s_while (M := M0) e3.si True.intro (fun n σ' J G => Ex0 I H J G ∧ ∃ es vs ws x3 x4 x6 x7 x8 x9, ∃ i : Nat, σ' = [some v0, some (.ref d), some (.ref a), x3, x4, some (.int i), x6, x7, x8, x9] ∧ Cells2 P w d a ws J G es vs ∧
        SrchW p ws ∧ i ≤ ws.length ∧ n + i = 15626 ∧ searchW p n i ws = foundW p) (n0 := 15626) ?_ ?_
      · exact ⟨g0.trans e3, es, vs, startW p, x3, x4, x6, x7, x8, x9, 0, rfl, cl.ext e3, start_good hp, Nat.zero_le _, rfl, (foundW_is p).symm⟩
      · rintro n σ1 J G sJ sG _ ⟨q0, es, vs, ws, x3, x4, x6, x7, x8, x9, i, rfl, cl, good, hi, hn, hb⟩
        have lv : vs.length = ws.length := Paired.length cl.pv
        have few := good.few hp
        refine ⟨_, c_test (e_b2 (e_var (R := dI) (x := (i : Int)) rfl) (e_lenC rfl cl.ga (fun z => z))), fun ht J2 G2 e4 c4 => ?_, fun ht J2 G2 e4 c4 => ?_⟩
        · have hlt : i < ws.length := by have := of_decide_eq_true ht; omega
          have hq : ws[i]? = some ws[i] := List.getElem?_eq_getElem hlt
          have cl2 := cl.ext e4
          refine s_asgG (M := M0) (e_ixC rfl cl2.ga (fun z => z) cl2.pv (e_var (R := dI) (x := (i : Int)) rfl) (atI_nat hq)) b_pair e4.si True.intro (fun σ3 J3 G3 e5 c5 hσ => ?_)
          obtain ⟨y, z, rfl, ry, rz⟩ := hσ
          refine s_augI (M := M0) (f := fun i j => i + j) rfl (show dI J3 _ (i : Int) from rfl) (e_int (i := 1)) e5.si True.intro (fun J4 G4 e6 c6 => ?_)
          have e46 := (e4.trans e5).trans e6
          have p6 := q0.trans e46
          have okq := good.ok _ (List.getElem_mem hlt)
          have shq := good.short i _ hq
          refine s_for (M := M0) (s_rng (e_many KC (e_var (Mono.up r0 p6.ii))) (by omega) (by omega)) b_name e6.si True.intro (fun j σ' J G => Ex0 I H J G ∧ Sub J4 J ∧ ∃ es vs x6 x7 x8 x9, σ' = [some v0, some (.ref d), some (.ref a), some y, some z, some (.int ((i : Int) + 1)), x6, x7, x8, x9] ∧
            Cells2 P w d a ((((rng p.1).take j).map (nextW p ws[i])).foldl putW ws) J G es vs ∧ ∀ k ∈ (rng p.1).take j, backW p ws[i].1 k = false) ?_ ?_ ?_ ?_
          · rintro j σ' J5 G5 J6 G6 e7 ⟨g0, g1, es', vs', y6, y7, y8, y9, g2, g3, g4⟩
            exact ⟨g0.trans e7, g1.trans e7.ii, es', vs', y6, y7, y8, y9, g2, g3.ext e7, g4⟩
          · intro J5 G5 e7 c7
            exact ⟨p6.trans e7, e7.ii, es, vs, x6, x7, x8, x9, rfl, cl.ext (e46.trans e7), fun _ z => (nomatch z)⟩
          · rintro I0 s0 j hj σ1 σ2 J5 G5 sJ5 sG5 _ ⟨g0, g1, es', vs', y6, y7, y8, y9, rfl, cl5, hno⟩ ⟨v, rfl, rv⟩
            have hk := mem_rng (List.getElem_mem hj)
            have ry5 : dPr J5 y ws[i].1 := Mono.up ry (e6.ii.trans g1)
            have rz5 : dTr J5 z ws[i].2 := Mono.up rz (e6.ii.trans g1)
            have goodj := nexts_good hp good hq (ks := (rng p.1).take j) fun k hk => mem_rng (List.mem_of_mem_take hk)
            have fewj := goodj.few hp
            have le : es'.length = ((((rng p.1).take j).map (nextW p ws[i])).foldl putW ws).length := by rw [← List.length_map (f := fun x : NE => x.1), cl5.fe, List.length_map]
            have lv' := Paired.length cl5.pv
            refine s_par (M := M0) (e_call (a_cons (e_var (Mono.up r0 g0.ii)) (a_cons (e_ix0 (e_var ry5)) (a_cons (e_var rv) a_nil))) ⟨kok, okq.1.len, hk.1, hk.2⟩) (e_call (a_cons (e_var (Mono.up r0 g0.ii)) (a_cons (e_ix1 (e_var ry5)) (a_cons (e_var rv) a_nil))) ⟨kok, okq.2.len, hk.1, hk.2⟩) sG5 True.intro (fun v7 v8 J6 G6 e8 c8 q7 q8 => ?_)
            have cl6 := cl5.ext e8
            refine s_if (M := M0) (b := backW p ws[i].1 (rng p.1)[j]) (c_and (c_val (e_ix0 (e_var q8))) (fun _ => c_not (c_val (e_ix0 (e_var q7))))) e8.si True.intro (fun hc J7 G7 e9 c9 => ?_) (fun hc J7 G7 e9 c9 => ?_)
            · have e89 := e8.trans e9
              have cl7 := cl6.ext e9
              have z9 := (g0.trans e89).seal hd cl7.gd cl7.jd
              have up7 : Sub J7 (upd J7 d (dNs P w d es')) := Sub.in_ cl7.jd
              obtain ⟨n', rfl⟩ : ∃ n', n = n' + 1 := ⟨n - 1, by omega⟩
              have hit := search_hit (n := n') hq hj hno hc
              refine s_ret (M := M0) (e_pair (R := dNd P w) (S := dO dTr) (x := (((((rng p.1).take j).map (nextW p ws[i])).foldl putW ws)).map Prod.fst) (y := some (longerW ws[i].2 (rng p.1)[j])) (e_var ⟨d, es', rfl, upd_same, fun q hq => (cl7.ks q hq).up up7, cl7.fe⟩) (e_some (e_call (a_cons (e_var (Mono.up rz5 (e89.ii.trans up7))) (a_cons (e_var (Mono.up rv (e89.ii.trans up7))) a_nil)) (show ws[i].2.1.length < 100000 by omega)))) z9.si True.intro (fun v J8 G8 e10 c10 r => k v J8 G8 (z9.trans e10) ?_)
              rw [← hb, hit]
              exact r
            · have e89 := e8.trans e9
              refine s_asg (M := M0) (R := dPr) (x := nextP p ws[i].1 (rng p.1)[j]) (e_pair (e_ix1 (e_var (Mono.up q7 e9.ii))) (e_ix1 (e_var (Mono.up q8 e9.ii)))) e9.si True.intro (fun v9 J8 G8 e10 c10 q9 => ?_)
              have cl8 := (cl6.ext e9).ext e10
              have e810 := e89.trans e10
              have tk : (((rng p.1).take (j + 1)).map (nextW p ws[i])).foldl putW ws = putW ((((rng p.1).take j).map (nextW p ws[i])).foldl putW ws) (nextW p ws[i] (rng p.1)[j]) := by rw [take_snoc hj, List.map_append, List.foldl_append]; rfl
              have hno' : ∀ k ∈ (rng p.1).take (j + 1), backW p ws[i].1 k = false := fun k hk => by
                rw [take_snoc hj] at hk
                rcases List.mem_append.mp hk with hk | hk
                · exact hno k hk
                · rw [List.mem_singleton.mp hk]; exact hc
              refine s_if (M := M0) (c_val (e_nsNotIn rfl cl8.gd (fun z => z) cl8.ks (e_var q9))) e10.si True.intro (fun hc J9 G9 e11 c11 => ?_) (fun hc J9 G9 e11 c11 => ?_)
              · have hn : (nextW p ws[i] (rng p.1)[j]).1 ∉ ((((rng p.1).take j).map (nextW p ws[i])).foldl putW ws).map Prod.fst := by rw [← cl8.fe]; show nextP p ws[i].1 (rng p.1)[j] ∉ _; simpa using hc
                have cl9 := cl8.ext e11
                refine s_nsPut (M := M0) rfl cl9.gd cl9.jd (fun z => z) cl9.ks e_bl (e_var (Mono.up q9 e11.ii)) e11.si True.intro (by rw [cl9.fe]; exact hn) (by rw [sizeLine_eq]; omega) (fun q J10 G10 e12 c12 g10 g11 kq => ?_)
                have cl10 := cl9.ext e12
                have e1112 := e11.trans e12
                have e1212 := e810.trans e1112
                refine s_append (M := M0) (R := dIt) (x := nextW p ws[i] (rng p.1)[j]) rfl (by rw [upd_ne ad]; exact cl10.ga) cl10.ja (fun z => z) (e_pair (e_var (Mono.up q9 e1112.ii)) (e_call (a_cons (e_var (Mono.up rz5 e1212.ii)) (a_cons (e_var (Mono.up rv e1212.ii)) a_nil)) (show ws[i].2.1.length < 100000 by omega))) (e12.si.cell g11) True.intro (by rw [sizeLine_eq]; omega) (fun u J11 G11 e13 c13 h1 h2 ru => ?_)
                obtain ⟨y1, y2, y3⟩ := puts (x := nextW p ws[i] (rng p.1)[j]) g0 cl5 e1212 kq hn e13 h1 h2 ru
                exact ⟨J11, sJ5.trans y2, y1.si, True.intro, y1, g1.trans y2, _, _, _, _, _, _, rfl, tk ▸ y3, hno'⟩
              · have hn : (nextW p ws[i] (rng p.1)[j]).1 ∈ ((((rng p.1).take j).map (nextW p ws[i])).foldl putW ws).map Prod.fst := by rw [← cl8.fe]; show nextP p ws[i].1 (rng p.1)[j] ∈ _; simpa using hc
                have e811 := e810.trans e11
                exact ⟨J9, sJ5.trans e811.ii, e11.si, True.intro, g0.trans e811, g1.trans e811.ii, _, _, _, _, _, _, rfl, by rw [tk, putW_old hn]; exact cl8.ext e11, hno'⟩
          · rintro σ1 J5 G5 sJ5 sG5 _ ⟨g0, g1, es', vs', y6, y7, y8, y9, rfl, cl5, hno⟩
            rw [List.take_length] at cl5 hno
            obtain ⟨n', rfl⟩ : ∃ n', n = n' + 1 := ⟨n - 1, by omega⟩
            have tg := turnW_good hp good hq
            have l1 : ws.length ≤ (turnW p ws[i] ws).length := (puts_pre _ _).length_le
            refine ⟨n', J5, Nat.lt_succ_self _, (sJ.trans e46.ii).trans g1, sG5, True.intro, g0, es', vs', turnW p ws[i] ws, _, _, _, _, _, _, i + 1, rfl, cl5, tg, by omega, by omega, ?_⟩
            rw [← hb, search_on hq hno]
        · have hge : ws.length ≤ i := by have := of_decide_eq_false ht; omega
          have e5 := q0.trans e4
          rw [search_end hge] at hb
          have cl2 := cl.ext e4
          have z9 := e5.seal hd cl2.gd cl2.jd
          have up7 : Sub J2 (upd J2 d (dNs P w d es)) := Sub.in_ cl2.jd
          refine s_ret (M := M0) (e_pair (R := dNd P w) (S := dO dTr) (x := ws.map Prod.fst) (y := none) (e_var ⟨d, es, rfl, upd_same, fun q hq => (cl2.ks q hq).up up7, cl2.fe⟩) e_nonO) z9.si True.intro (fun v J8 G8 e10 c10 r => k v J8 G8 (z9.trans e10) ?_)
          rw [← hb]
          exact r
end
end KK

namespace KK
open PySem PySem.Spec PyProof.Rows L2 RZ DL
section
variable {P : Program} {w : World} {K : PySem.W.Frag} {mg : Str → Option Value} {base : Heap}
abbrev sp_steady_kinds (C : Addr) : Sp := DL.sp (aCons (dKinds C) aNil) (fun x => LotsOk x.1.1 x.1.2) dB (fun x => (foundW x.1).2.isNone)
abbrev s_steady_kinds : Stmt := topS 32
abbrev N_steady_kinds : List Str := ["kinds"]
theorem sc_steady_kinds : FnScope N_steady_kinds ["kinds"] (defScope s_steady_kinds) := ⟨rfl, rfl, rfl, by decide +kernel, rfl, by decide +kernel, by decide +kernel⟩
theorem mk_steady_kinds {C f : Addr} {fd : FuncData} (F : Df K mg "steady_kinds" s_steady_kinds ["kinds"] f fd) (T : Txt mg) (c_search : Cal P w K mg base 6 "search" (sp_search P w C)) : Cal P w K mg base 7 "steady_kinds" (sp_steady_kinds C) := by
  refine Cal.of F (F.fn.ok sc_steady_kinds (fun vs H Q E h => ?_) (fun cdv A outer s H vs Q E hr h => ?_))
  · obtain ⟨I, x, si, ⟨v0, _, rfl, r0, rfl⟩, hp, k⟩ := h
    rfl
  · obtain ⟨I, ⟨p, ⟨⟩⟩, si, ⟨v0, _, rfl, r0, rfl⟩, hp, k⟩ := h
    dsimp only at *
    refine ⟨_, (pss_one (ps_ret (pe_cmp (pc_isN (pe_ix (kixT K) (pe_c c_search hr (by decide) (by rfl) (pa_cons (pv 0) pa_nil)) pe_int (fun _ _ => rfl)))))), ?_⟩
    exact s_ret (M := M0) (e_isN (R := dTr) dQ_some (e_ix1 (e_call (a_cons (e_var r0) a_nil) hp))) si True.intro (fun v J G e c r => k v J G e r)
abbrev sp_called_back (C : Addr) : Sp := DL.sp (aCons (dKinds C) aNil) (fun x => LotsOk x.1.1 x.1.2) (dO dTr) (fun x => (foundW x.1).2)
abbrev s_called_back : Stmt := topS 33
abbrev N_called_back : List Str := ["kinds"]
theorem sc_called_back : FnScope N_called_back ["kinds"] (defScope s_called_back) := ⟨rfl, rfl, rfl, by decide +kernel, rfl, by decide +kernel, by decide +kernel⟩
theorem mk_called_back {C f : Addr} {fd : FuncData} (F : Df K mg "called_back" s_called_back ["kinds"] f fd) (T : Txt mg) (c_search : Cal P w K mg base 6 "search" (sp_search P w C)) : Cal P w K mg base 7 "called_back" (sp_called_back C) := by
  refine Cal.of F (F.fn.ok sc_called_back (fun vs H Q E h => ?_) (fun cdv A outer s H vs Q E hr h => ?_))
  · obtain ⟨I, x, si, ⟨v0, _, rfl, r0, rfl⟩, hp, k⟩ := h
    rfl
  · obtain ⟨I, ⟨p, ⟨⟩⟩, si, ⟨v0, _, rfl, r0, rfl⟩, hp, k⟩ := h
    dsimp only at *
    refine ⟨_, (pss_one (ps_ret (pe_ix (kixT K) (pe_c c_search hr (by decide) (by rfl) (pa_cons (pv 0) pa_nil)) pe_int (fun _ _ => rfl)))), ?_⟩
    exact s_ret (M := M0) (e_ix1 (R := dNd P w) (e_call (a_cons (e_var r0) a_nil) hp)) si True.intro (fun v J G e c r => k v J G e r)
def tableW (p : Kd) : Option (List Pr) := if (foundW p).2.isNone = true then some (sortP ((foundW p).1.map Prod.fst)) else none
abbrev sp_steady_table (C : Addr) : Sp := DL.sp (aCons (dKinds C) aNil) (fun x => LotsOk x.1.1 x.1.2) (dO (dT dPr)) (fun x => tableW x.1)
abbrev s_steady_table : Stmt := topS 34
abbrev N_steady_table : List Str := ["kinds", "known", "told"]
theorem sc_steady_table : FnScope N_steady_table ["kinds"] (defScope s_steady_table) := ⟨rfl, rfl, rfl, by decide +kernel, rfl, by decide +kernel, by decide +kernel⟩
theorem mk_steady_table {C f : Addr} {fd : FuncData} (F : Df K mg "steady_table" s_steady_table ["kinds"] f fd) (T : Txt mg) (c_search : Cal P w K mg base 6 "search" (sp_search P w C)) : Cal P w K mg base 7 "steady_table" (sp_steady_table C) := by
  refine Cal.of F (F.fn.ok sc_steady_table (fun vs H Q E h => ?_) (fun cdv A outer s H vs Q E hr h => ?_))
  · obtain ⟨I, x, si, ⟨v0, _, rfl, r0, rfl⟩, hp, k⟩ := h
    rfl
  · obtain ⟨I, ⟨p, ⟨⟩⟩, si, ⟨v0, _, rfl, r0, rfl⟩, hp, k⟩ := h
    dsimp only at *
    refine ⟨_, (pss_cons (ps_asg (pe_c c_search hr (by decide) (by rfl) (pa_cons (pv 0) pa_nil)) (kgtup K rfl (pgs_cons (pg_name (i := 1) sc_steady_table.nd rfl (Or.inl rfl)) (pgs_cons (pg_name (i := 2) sc_steady_table.nd rfl (Or.inl rfl)) pgs_nil))))
    (pss_one (ps_ret (pe_ifExp (pt_cmp (pc_isN (pv 2))) (ktuple K (by rfl) T.b_tuple (pe_callB (ksortPr (K := K) hr.units) (by rfl) T.b_sorted boot_sorted (pa_cons (pe_callTy (knsList (P := P) (w := w) rfl) (by rfl) T.b_list boot_list (pa_cons (pv 1) pa_nil)) pa_nil))) pe_non)))), ?_⟩
    refine s_asgG (M := M0) (e_call (a_cons (e_var r0) a_nil) hp) b_pair si True.intro (fun σ3 J3 G3 e5 c5 hσ => ?_)
    obtain ⟨y, z, rfl, ry, rz⟩ := hσ
    exact s_ret (M := M0) (e_if (c_test (e_isN (R := dTr) dQ_some (e_var rz))) (fun _ => e_some (e_tupleL (e_sortPr (e_nsListK (e_var ry))))) (fun _ => e_nonO)) e5.si True.intro (fun v J G e c r => k v J G (e5.trans e) r)
theorem table_none {p : Kd} (h : (foundW p).2.isNone = false) : tableW p = none := by unfold tableW; rw [h]; rfl
theorem table_some {p : Kd} (h : (foundW p).2.isNone = true) : tableW p = some (sortP ((allW p).map Prod.fst)) := by
  unfold tableW
  rw [if_pos h, found_all (Option.isNone_iff_eq_none.mp h)]
theorem sortP_mem {ps : List Pr} {r : Pr} : r ∈ sortP ps ↔ r ∈ ps := List.mem_mergeSort
end
end KK

/-! the law's own search of pairs -/
namespace KK
open PySem PySem.Spec PyProof.Rows L2 RZ DL
theorem s_ifSet {σ : L2.St} {I H : Hp} {tc : TT} {E : Ends} {b c old : Bool} {i : Nat} (d : DT M0 tc σ I H b) (hi : σ[i]? = some (some (.bl old))) (s : DL.Sub I H) (k : ∀ J G, Ex0 I H J G → E.nx (σ.set i (some (.bl (if b = true then c else old)))) G) : tIfS tc (tAsg (tC (.bl c)) (gName i)) tNext E σ H := by
  refine s_if (M := M0) d s True.intro (fun hb J G e _ => ?_) (fun hb J G e _ => ?_)
  · have z := k J G e
    rw [hb, if_pos rfl] at z
    exact z
  · have z := k J G e
    rw [hb, if_neg Bool.false_ne_true] at z
    have es : σ.set i (some (.bl old)) = σ := by
      apply List.ext_getElem?
      intro n
      rw [List.getElem?_set]
      split
      · rename_i hn
        subst hn
        split
        · exact hi.symm
        · rename_i hlt
          rw [List.getElem?_eq_none (by omega)] at hi
          cases hi
      · rfl
    rw [es] at z
    exact z
theorem on_next {p : Kd} {s : List Int} {k : Int} {lots : List (List Int)} (hp : LotsOk p.1 p.2) (e : lots = p.2) (hs : s.length = p.1.toNat) : onK (kdOf s lots) s k = onK p s k := on_kd hp e hs
theorem law_end {p : Kd} {n i : Nat} {b : Bool} {ws : List It} (h : ws.length ≤ i) : lawW p n i b ws = (b, ws) := by
  cases n with
  | zero => rfl
  | succ n => unfold lawW; rw [List.getElem?_eq_none h]
theorem law_on {p : Kd} {n i : Nat} {b : Bool} {ws : List It} {x : It} (hi : ws[i]? = some x) : lawW p (n + 1) i b ws = lawW p n (i + 1) (b && !(rng p.1).any (backW p x.1)) (turnW p x ws) := by
  rw [lawW, hi]
theorem any_snoc {p : Kd} {r : Pr} {j : Nat} {b : Bool} (hj : j < (rng p.1).length) : (if backW p r (rng p.1)[j] = true then false else (b && !((rng p.1).take j).any (backW p r))) = (b && !((rng p.1).take (j + 1)).any (backW p r)) := by
  rw [take_snoc hj, List.any_append]
  cases h : backW p r (rng p.1)[j] <;> simp [h]
section
variable {P : Program} {w : World} {K : PySem.W.Frag} {mg : Str → Option Value} {base : Heap}
/-- the cells of the law's search: the dict d and the list a stand for the pairs rs -/
structure CellsP (P : Program) (w : World) (d a : Addr) (rs : List Pr) (J G : Hp) (es : List NE) (vs : List V) : Prop where
  ja : J a = none
  ga : G a = some (.lst vs)
  jd : J d = none
  gd : G d = some (dNs P w d es)
  ks : ∀ q ∈ es, KeyAt J q
  pv : Paired (dPr J) vs rs
  fe : es.map (·.1) = rs
theorem CellsP.ext {d a : Addr} {rs : List Pr} {J G J' G' : Hp} {es : List NE} {vs : List V} (h : CellsP P w d a rs J G es vs) (e : ExT no J G J' G') : CellsP P w d a rs J' G' es vs :=
  have ga := e.kp _ _ (fun z => z) h.ga
  have gd := e.kp _ _ (fun z => z) h.gd
  ⟨e.out h.ja ga (by rw [h.ga]; simp) (fun ⟨xs, z⟩ => by cases z), ga, e.out h.jd gd (by rw [h.gd]; simp) (fun ⟨xs, z⟩ => dNs_ne xs z), gd, fun q hq => (h.ks q hq).up e.ii, paired_up h.pv e.ii, h.fe⟩
theorem fst_put {ws : List It} {x : It} (h : x.1 ∉ ws.map Prod.fst) : (putW ws x).map Prod.fst = ws.map Prod.fst ++ [x.1] := by rw [putW_new h, List.map_append]; rfl
/-- x put into both -/
theorem CellsP.puts {d a : Addr} {ws : List It} {J G J' G' I9 H9 Ib Hb : Hp} {m : Addr → Prop} {es : List NE} {vs : List V} {x : It} {q : Addr} {u : V} (ad : a ≠ d) (fd : m d ∨ Hb d = none) (fa : m a ∨ Hb a = none) (g0 : ExT m Ib Hb J G) (cl : CellsP P w d a (ws.map Prod.fst) J G es vs) (e : ExT no J G J' G') (e' : ExT m J G J' G') (kq : KeyAt J' (x.1, q)) (hn : x.1 ∉ ws.map Prod.fst)
    (e9 : Ex0 J' (upd G' d (dNs P w d (es ++ [(x.1, q)]))) I9 H9) (h9 : H9 a = some (.lst vs)) (i9 : I9 a = none) (ru : dPr I9 u x.1) :
    ExT m Ib Hb I9 (upd H9 a (.lst (vs ++ [u]))) ∧ DL.Sub J I9 ∧ CellsP P w d a ((putW ws x).map Prod.fst) I9 (upd H9 a (.lst (vs ++ [u]))) (es ++ [(x.1, q)]) (vs ++ [u]) := by
  have jd' := (cl.ext e).jd
  have x1 := ((g0.trans e').put (o := dNs P w d (es ++ [(x.1, q)])) fd jd').trans (e9.of0 (m := m)).t
  have x2 := x1.put (o := .lst (vs ++ [u])) fa i9
  refine ⟨x2, e.ii.trans e9.ii, i9, upd_same, e9.out jd' (by rw [upd_same]; simp), ?_, fun z hz => ?_, ?_, ?_⟩
  · rw [upd_ne (Ne.symm ad)]
    exact e9.kp _ _ (fun z => z) upd_same
  · rcases List.mem_append.mp hz with hz | hz
    · exact (cl.ks z hz).up (e.ii.trans e9.ii)
    · rw [List.mem_singleton.mp hz]; exact kq.up e9.ii
  · rw [fst_put hn]
    exact paired_app (paired_up cl.pv (e.ii.trans e9.ii)) (.cons ru .nil)
  · rw [fst_put hn, List.map_append, cl.fe]
    rfl
/-- whether steady, and all pairs; of what stood, tuples may be known now -/
def spT_pairs : Sp := fun vs H Q _ => ∃ I x, DL.Sub I H ∧ aCons dI (aCons (dT (dT dI)) aNil) I vs x ∧ LotsOk x.1 x.2.1 ∧ ∀ v I' H', ExT no I H I' H' → dP dB (dL dPr) I' v ((foundW (x.1, x.2.1)).2.isNone, (allW (x.1, x.2.1)).map Prod.fst) → Q v H'
abbrev s_law_pairs : Stmt := topS 46
abbrev N_law_pairs : List Str := ["many", "lots", "caps_v", "rows", "known", "line", "stand", "kind", "pair", "at", "is_steady", "one", "other"]
theorem sc_law_pairs : FnScope N_law_pairs ["many", "lots"] (defScope s_law_pairs) := ⟨rfl, rfl, rfl, by decide +kernel, rfl, by decide +kernel, by decide +kernel⟩
theorem mk_law_pairs {f : Addr} {fd : FuncData} (F : Df K mg "_law_pairs" s_law_pairs ["many", "lots"] f fd) (T : Txt mg) (c_law_stands : Cal P w K mg base 2 "_law_stands" spD_stands) (c_law_is_out : Cal P w K mg base 1 "_law_is_out" sp_law_is_out) (c_law_on : Cal P w K mg base 1 "_law_on" sp_law_on) : Cal P w K mg base 3 "_law_pairs" spT_pairs := by
  refine Cal.of F (F.fn.ok sc_law_pairs (fun vs H Q E h => ?_) (fun cdv A outer s H vs Q E hr h => ?_))
  · obtain ⟨I, x, si, ⟨v0, _, rfl, r0, v1, _, rfl, r1, rfl⟩, hp, k⟩ := h
    rfl
  · obtain ⟨I, ⟨many, lots, ⟨⟩⟩, si, ⟨v0, _, rfl, r0, v1, _, rfl, r1, rfl⟩, hp, k⟩ := h
    dsimp only at *
    have lo := hp.lo
    have hi3 := hp.hi
    have few : lots.length ≤ 12 := hp.few
    have kok := hp.kok
    obtain ⟨good, _⟩ := all_good (p := (many, lots)) hp
    have fewS := good.few hp
    have kd : ∀ {s : List Int}, s.length = many.toNat → kdOf s lots = (many, lots) := fun {s} hs => by
      show (((s.length : Nat) : Int), lots) = (many, lots)
      rw [hs, Int.toNat_of_nonneg (by omega)]
    have pre : ∀ {s : List Int} {k : Int}, s.length = many.toNat → KindOk (many, lots) k → PreOn (kdOf s lots) (capsOf (many, lots)) s k := fun {s k} hs hk => by
      rw [kd hs]
      exact ⟨hp, rfl, hs, hk⟩
    have onE : ∀ {s : List Int} {k : Int}, s.length = many.toNat → onK (kdOf s lots) s k = onK (many, lots) s k := fun {s k} hs => by rw [kd hs]
    have outp : ∀ {s : List Int}, s.length = many.toNat → lots.length < 1000 ∧ s.length < 1000 ∧ ∀ l ∈ lots, l.length ≤ s.length := fun {s} hs => ⟨by omega, by omega, fun l hl => by have := kok.len l hl; dsimp only at this; omega⟩
    refine ⟨_, (pss_cons (ps_asg (pe_c c_law_stands hr (by decide) (by rfl) (pa_cons (pv 0) (pa_cons (pv 1) pa_nil))) (kgtup K rfl (pgs_cons (pg_name (i := 2) sc_law_pairs.nd rfl (Or.inl rfl)) (pgs_cons (pg_name (i := 3) sc_law_pairs.nd rfl (Or.inl rfl)) pgs_nil))))
    (pss_cons (ps_par (i := 4) (j := 5) rfl sc_law_pairs.nd rfl rfl (by decide) rfl rfl (pa_cons pe_nsNew (pa_cons (pe_lst pa_nil) pa_nil)) rfl)
    (pss_cons (ps_lock (ps_for PassesOwn.never rfl (pi_keys (pv 3)) (pg_name (i := 6) sc_law_pairs.nd rfl (Or.inl rfl))
    (pss_one (ps_for PassesOwn.never rfl (pi_range1 rfl T.b_range (pa_cons (pv 0) pa_nil)) (pg_name (i := 7) sc_law_pairs.nd rfl (Or.inl rfl))
    (pss_cons (ps_set (i := 8) sc_law_pairs.nd rfl (Or.inl rfl) (pe_tup (pa_cons (pv 6) (pa_cons (pe_c c_law_on hr (by decide) (by rfl) (pa_cons (pv 2) (pa_cons (pv 1) (pa_cons (pv 6) (pa_cons (pv 7) pa_nil))))) pa_nil))))
    (pss_one (ps_if (pt_cmp (pc_nsNotIn (P := P) (w := w) hr.units (pv 8) (pv 4))) (pss_cons (ps_nsPut (P := P) (w := w) hr.units (pv 4) (pv 8) pe_bl rfl)
    (pss_one (ps_expr (pe_bm PySem.F.plainAttrs_list PySem.F.slot_list_append PySem.F.type_list_append mt_append (pv 5) (pa_cons (pv 8) pa_nil))))) pss_nil)))))))
    (pss_cons (ps_asg (pe_tup (pa_cons pe_int (pa_cons pe_bl pa_nil))) (kgtup K rfl (pgs_cons (pg_name (i := 9) sc_law_pairs.nd rfl (Or.inl rfl)) (pgs_cons (pg_name (i := 10) sc_law_pairs.nd rfl (Or.inl rfl)) pgs_nil))))
    (pss_cons (ps_while PassesOwn.never (pt_cmpR op_lt (pv 9) (pe_callB (klen K) (by rfl) T.b_len PySem.boot_len (pa_cons (pv 5) pa_nil)) (nomark _))
    (pss_cons (ps_asg (pe_ix (kixL K) (pv 5) (pv 9) (fun _ _ => rfl)) (kgtup K rfl (pgs_cons (pg_name (i := 11) sc_law_pairs.nd rfl (Or.inl rfl)) (pgs_cons (pg_name (i := 12) sc_law_pairs.nd rfl (Or.inl rfl)) pgs_nil))))
    (pss_cons (ps_for PassesOwn.never rfl (pi_range1 rfl T.b_range (pa_cons (pv 0) pa_nil)) (pg_name (i := 7) sc_law_pairs.nd rfl (Or.inl rfl))
    (pss_cons (ps_if (PW.pt (pw_and (pt_val (pe_c c_law_is_out hr (by decide) (by rfl) (pa_cons (pv 1) (pa_cons (pv 11) (pa_cons (pv 7) pa_nil))))) (pw_and1 (pt_not (pt_val (pe_c c_law_is_out hr (by decide) (by rfl) (pa_cons (pv 1) (pa_cons (pv 12) (pa_cons (pv 7) pa_nil))))))))) (pss_one (ps_set (i := 10) sc_law_pairs.nd rfl (Or.inl rfl) pe_bl)) pss_nil)
    (pss_cons (ps_set (i := 8) sc_law_pairs.nd rfl (Or.inl rfl) (pe_tup (pa_cons (pe_c c_law_on hr (by decide) (by rfl) (pa_cons (pv 2) (pa_cons (pv 1) (pa_cons (pv 11) (pa_cons (pv 7) pa_nil))))) (pa_cons (pe_c c_law_on hr (by decide) (by rfl) (pa_cons (pv 2) (pa_cons (pv 1) (pa_cons (pv 12) (pa_cons (pv 7) pa_nil))))) pa_nil))))
    (pss_one (ps_if (pt_cmp (pc_nsNotIn (P := P) (w := w) hr.units (pv 8) (pv 4))) (pss_cons (ps_nsPut (P := P) (w := w) hr.units (pv 4) (pv 8) pe_bl rfl)
    (pss_one (ps_expr (pe_bm PySem.F.plainAttrs_list PySem.F.slot_list_append PySem.F.type_list_append mt_append (pv 5) (pa_cons (pv 8) pa_nil))))) pss_nil)))))
    (pss_one (ps_set (i := 9) sc_law_pairs.nd rfl (Or.inl rfl) (pe_op op_add (pv 9) pe_int))))))
    (pss_one (ps_ret (pe_tup (pa_cons (pv 10) (pa_cons (pv 5) pa_nil)))))))))), ?_⟩
    refine s_stands (a_cons (e_var r0) (a_cons (e_var r1) a_nil)) hp b_pair si (fun σ2 dr ws I1 H1 e1 hdr hI1 hH1 pw hσ => ?_)
    obtain ⟨y, z, rfl, ry, rz⟩ := hσ
    have ez : z = V.ref dr := rz
    subst ez
    have lw : ws.length = (allStates (many, lots)).length := (Paired.length pw).trans (List.length_map _)
    dsimp only [tSeq]
    refine s_parNs (M := M0) (R := dPr) (xs := []) (f_lst l_nil) e1.si True.intro (fun d a vs0 I2 H2 e2 c2 hd1 hId hHd ha1 hIa hHa pv0 da => ?_)
    have ev0 : vs0 = [] := by cases pv0; rfl
    subst ev0
    have old : ∀ {b : Addr}, H1 b = none → H b = none := fun {b} hb => by
      cases g : H b with
      | none => rfl
      | some u => exact absurd hb (e1.dm b (by rw [g]; simp))
    have hd := old hd1
    have ha := old ha1
    have e12 := e1.trans e2
    have rd1 : d ≠ dr := fun z => by rw [z, hH1] at hd1; cases hd1
    have rd2 : a ≠ dr := fun z => by rw [z, hH1] at ha1; cases ha1
    have ad : a ≠ d := da.symm
    have cell0 : CellsP P w d a (([] : List It).map Prod.fst) I2 H2 [] [] := ⟨hIa, hHa, hId, hHd, fun _ z => (nomatch z), .nil, rfl⟩
    have fok := first_ok (p := (many, lots)) hp
    have putg : ∀ {xs : List It}, (∀ x ∈ xs, x ∈ firstW (many, lots)) → SrchW (many, lots) (xs.foldl putW []) := fun {xs} h => puts_good empty_good fun x hx => ⟨(fok x (h x hx)).1, by have := (fok x (h x hx)).2; omega⟩
    dsimp only [tSeq]
    refine s_forKT (m := fun b => b = d ∨ b = a) (keys := (allStates (many, lots)).map Prod.fst) rfl (e2.kp _ _ (fun z => z) hH1) (e2.out hI1 (by rw [hH1]; simp)) (fun z => z.elim (fun z => rd1 z.symm) fun z => rd2 z.symm) (rows_keys lw) b_name e2.si
      (fun i σ' J G => ∃ es vs x6 x7 x8 x9 x10 x11 x12, σ' = [some v0, some v1, some y, some (.ref dr), some (.ref d), some (.ref a), x6, x7, x8, x9, x10, x11, x12] ∧
        CellsP P w d a (((((allStates (many, lots)).take i).map fun q => (rng many).map (headW (many, lots) q)).flatten.foldl putW []).map Prod.fst) J G es vs) ?_ ?_ ?_
    · exact fun od => ⟨[], [], none, none, none, none, none, none, none, rfl, ⟨hIa, by rw [upd_ne rd2]; exact hHa, hId, by rw [upd_ne rd1]; exact hHd, fun _ z => (nomatch z), .nil, rfl⟩⟩
    · rintro od i hi σ1 σ2 J J2 G x0 t0 ⟨es, vs, x6, x7, x8, x9, x10, x11, x12, rfl, cl⟩ ⟨v6, rfl, r6⟩
      have hi' : i < (allStates (many, lots)).length := by rw [List.length_map] at hi; exact hi
      rw [List.getElem_map] at r6
      have okq := good.ok _ (List.getElem_mem hi')
      have ls : (allStates (many, lots))[i].1.length = many.toNat := okq.1.len
      have i1 := e12.ii.trans (x0.ii.trans t0.ii)
      have ry2 := Mono.up ry (e2.ii.trans (x0.ii.trans t0.ii))
      have x1 := x0.trans (ExT.mk (m := fun b => b = d ∨ b = a) t0.si t0.ii (fun b o _ h => t0.kp b o (fun z => z) h) t0.dm t0.fr)
      refine s_for (M := M0) (s_rng (e_var (Mono.up r0 i1)) (by omega) (by omega)) b_name t0.si True.intro (fun j σ' J' G' => ExT (fun b => b = d ∨ b = a) I2 (upd H2 dr (.frz od (.dT (rowsD ws (allStates (many, lots)))))) J' G' ∧ DL.Sub J2 J' ∧ ∃ es vs x7 x8, σ' = [some v0, some v1, some y, some (.ref dr), some (.ref d), some (.ref a), some v6, x7, x8, x9, x10, x11, x12] ∧
        CellsP P w d a ((((((allStates (many, lots)).take i).map fun q => (rng many).map (headW (many, lots) q)).flatten ++ ((rng many).take j).map (headW (many, lots) (allStates (many, lots))[i])).foldl putW []).map Prod.fst) J' G' es vs) ?_ ?_ ?_ ?_
      · rintro j σ' J6 G6 J7 G7 e7 ⟨h0, h1, es', vs', y7, y8, h2, h3⟩
        exact ⟨h0.trans e7.of0.t, h1.trans e7.ii, es', vs', y7, y8, h2, h3.ext e7.t⟩
      · intro J6 G6 e7 c7
        exact ⟨x1.trans e7.of0.t, e7.ii, es, vs, x7, x8, rfl, by rw [List.take_zero, List.map_nil, List.append_nil]; exact (cl.ext t0).ext e7.t⟩
      · rintro I6 s6 j hj σ1 σ2 J6 G6 sJ6 sG6 _ ⟨h0, h1, es', vs', y7, y8, rfl, cl6⟩ ⟨v7, rfl, r7⟩
        have hk := mem_rng (List.getElem_mem hj)
        have kj : KindOk (many, lots) (rng many)[j] := hk
        have i6 := i1.trans h1
        have tk : ((((allStates (many, lots)).take i).map fun q => (rng many).map (headW (many, lots) q)).flatten ++ ((rng many).take (j + 1)).map (headW (many, lots) (allStates (many, lots))[i])).foldl putW [] = putW (((((allStates (many, lots)).take i).map fun q => (rng many).map (headW (many, lots) q)).flatten ++ ((rng many).take j).map (headW (many, lots) (allStates (many, lots))[i])).foldl putW []) (headW (many, lots) (allStates (many, lots))[i] (rng many)[j]) := by
          rw [take_snoc hj, List.map_append, ← List.append_assoc, List.foldl_append]
          rfl
        have gj := (putg (xs := (((allStates (many, lots)).take i).map fun q => (rng many).map (headW (many, lots) q)).flatten ++ ((rng many).take j).map (headW (many, lots) (allStates (many, lots))[i])) (fun x hx => by
          rcases List.mem_append.mp hx with hx | hx
          · obtain ⟨l, hl, hx⟩ := List.mem_flatten.mp hx
            obtain ⟨q, hq, rfl⟩ := List.mem_map.mp hl
            exact List.mem_flatten.mpr ⟨_, List.mem_map.mpr ⟨q, List.mem_of_mem_take hq, rfl⟩, hx⟩
          · obtain ⟨k, hk, rfl⟩ := List.mem_map.mp hx
            exact List.mem_flatten.mpr ⟨_, List.mem_map.mpr ⟨_, List.getElem_mem hi', rfl⟩, List.mem_map.mpr ⟨k, List.mem_of_mem_take hk, rfl⟩⟩)).few hp
        have le : es'.length = (((((allStates (many, lots)).take i).map fun q => (rng many).map (headW (many, lots) q)).flatten ++ ((rng many).take j).map (headW (many, lots) (allStates (many, lots))[i])).foldl putW []).length := by rw [← List.length_map (f := fun x : NE => x.1), cl6.fe, List.length_map]
        have lv := (Paired.length cl6.pv).trans (List.length_map _)
        refine s_asg (M := M0) (R := dPr) (x := (headW (many, lots) (allStates (many, lots))[i] (rng many)[j]).1) (e_pair (e_var (Mono.up r6 h1)) ((e_call (a_cons (e_var (Mono.up ry2 h1)) (a_cons (e_var (Mono.up r1 i6)) (a_cons (e_var (Mono.up r6 h1)) (a_cons (e_var r7) a_nil)))) (pre ls kj)).eq (onE ls))) sG6 True.intro (fun v8 J7 G7 e7 c7 q8 => ?_)
        have cl7 := cl6.ext e7.t
        refine s_if (M := M0) (c_val (e_nsNotIn rfl cl7.gd (fun z => z) cl7.ks (e_var q8))) e7.si True.intro (fun hc J8 G8 e8 c8 => ?_) (fun hc J8 G8 e8 c8 => ?_)
        · have hn : (headW (many, lots) (allStates (many, lots))[i] (rng many)[j]).1 ∉ (((((allStates (many, lots)).take i).map fun q => (rng many).map (headW (many, lots) q)).flatten ++ ((rng many).take j).map (headW (many, lots) (allStates (many, lots))[i])).foldl putW []).map Prod.fst := by rw [← cl7.fe]; simpa using hc
          have cl8 := cl7.ext e8.t
          refine s_nsPut (M := M0) rfl cl8.gd cl8.jd (fun z => z) cl8.ks e_bl (e_var (Mono.up q8 e8.ii)) e8.si True.intro (by rw [cl8.fe]; exact hn) (by rw [sizeLine_eq]; omega) (fun q J10 G10 e12 c12 g10 g11 kq => ?_)
          have cl10 := cl8.ext e12.t
          have e78 := (e7.trans e8).trans e12
          refine s_append (M := M0) (R := dPr) rfl (by rw [upd_ne ad]; exact cl10.ga) cl10.ja (fun z => z) (e_var (Mono.up q8 (e8.ii.trans e12.ii))) (e12.si.cell g11) True.intro (by rw [sizeLine_eq]; omega) (fun u J11 G11 e13 c13 k1 k2 ru => ?_)
          obtain ⟨y1, y2, y3⟩ := CellsP.puts (x := headW (many, lots) (allStates (many, lots))[i] (rng many)[j]) ad (.inl (.inl rfl)) (.inl (.inr rfl)) h0 cl6 e78.t e78.of0.t kq hn e13 k1 k2 ru
          exact ⟨J11, sJ6.trans y2, y1.si, True.intro, y1, h1.trans y2, _, _, _, _, rfl, tk ▸ y3⟩
        · have hn : (headW (many, lots) (allStates (many, lots))[i] (rng many)[j]).1 ∈ (((((allStates (many, lots)).take i).map fun q => (rng many).map (headW (many, lots) q)).flatten ++ ((rng many).take j).map (headW (many, lots) (allStates (many, lots))[i])).foldl putW []).map Prod.fst := by rw [← cl7.fe]; simpa using hc
          have e78 := e7.trans e8
          exact ⟨J8, sJ6.trans e78.ii, e8.si, True.intro, h0.trans e78.of0.t, h1.trans e78.ii, _, _, _, _, rfl, by rw [tk, putW_old hn]; exact cl7.ext e8.t⟩
      · rintro σ1 J6 G6 sJ6 sG6 _ ⟨h0, h1, es', vs', y7, y8, rfl, cl6⟩
        rw [List.take_length] at cl6
        refine ⟨J6, h0, es', vs', _, _, _, _, _, _, _, rfl, ?_⟩
        rw [take_snoc hi', List.map_append, List.flatten_append]
        show CellsP P w d a (((_ ++ ((rng many).map (headW (many, lots) (allStates (many, lots))[i]) ++ [])).foldl putW []).map Prod.fst) J6 G6 es' vs'
        rw [List.append_nil]
        exact cl6
    · rintro od σ1 J0 G0 x0 hfz ⟨es, vs, x6, x7, x8, x9, x10, x11, x12, rfl, cl⟩
      rw [List.length_map, List.take_length] at cl
      replace cl : CellsP P w d a ((startW (many, lots)).map Prod.fst) J0 G0 es vs := cl
      have cl0 : CellsP P w d a ((startW (many, lots)).map Prod.fst) J0 (upd G0 dr (.dT (rowsD ws (allStates (many, lots))))) es vs := ⟨cl.ja, by rw [upd_ne rd2]; exact cl.ga, cl.jd, by rw [upd_ne rd1]; exact cl.gd, cl.ks, cl.pv, cl.fe⟩
      have g0 := ExT.narrow e12 x0 fun b hb => hb.elim (fun z => z ▸ hd) fun z => z ▸ ha
      have i0 := e2.ii.trans x0.ii
      dsimp only [tSeq]
      refine s_asgG (M := M0) (x := ((0 : Int), true)) (e_pair (R := dI) (S := dB) e_int e_bl) b_pair x0.si True.intro (fun σ3 J1 G1 e3 c3 hσ => ?_)
      obtain ⟨v9, v10, rfl, q9, q10⟩ := hσ
      have ev9 : v9 = V.int 0 := q9
      have ev10 : v10 = V.bl true := q10
      subst ev9 ev10
      dsimp only [tSeq]
      refine s_while (M := M0) e3.si True.intro (fun n σ' J G => ExT no I H J G ∧ DL.Sub I1 J ∧ ∃ es vs rs b x6 x7 x8 x11 x12, ∃ i : Nat, σ' = [some v0, some v1, some y, some (.ref dr), some (.ref d), some (.ref a), x6, x7, x8, some (.int i), some (.bl b), x11, x12] ∧ CellsP P w d a (rs.map Prod.fst) J G es vs ∧
        SrchW (many, lots) rs ∧ i ≤ rs.length ∧ n + i = 15626 ∧ lawW (many, lots) n i b rs = lawW (many, lots) 15626 0 true (startW (many, lots))) (n0 := 15626) ?_ ?_
      · exact ⟨g0.trans e3.t, i0.trans e3.ii, es, vs, startW (many, lots), true, x6, x7, x8, x11, x12, 0, rfl, cl0.ext e3.t, start_good hp, Nat.zero_le _, rfl, rfl⟩
      · rintro n σ1 J G sJ sG _ ⟨q0, q1, es, vs, rs, b, x6, x7, x8, x11, x12, i, rfl, cl, good, hi, hn, hb⟩
        have lv : vs.length = rs.length := (Paired.length cl.pv).trans (List.length_map _)
        have fewW := good.few hp
        refine ⟨_, c_test (e_b2 (e_var (R := dI) (x := (i : Int)) rfl) (e_lenC rfl cl.ga (fun z => z))), fun ht J2 G2 e4 c4 => ?_, fun ht J2 G2 e4 c4 => ?_⟩
        · have hlt : i < rs.length := by have := of_decide_eq_true ht; omega
          have hq : rs[i]? = some rs[i] := List.getElem?_eq_getElem hlt
          have hq1 : (rs.map Prod.fst)[i]? = some rs[i].1 := by rw [List.getElem?_map, hq]; rfl
          have cl2 := cl.ext e4.t
          refine s_asgG (M := M0) (e_ixC rfl cl2.ga (fun z => z) cl2.pv (e_var (R := dI) (x := (i : Int)) rfl) (atI_nat hq1)) b_pair e4.si True.intro (fun σ3 J3 G3 e5 c5 hσ => ?_)
          obtain ⟨v11, v12, rfl, r11, r12⟩ := hσ
          have e45 := e4.trans e5
          have p5 := q0.trans e45.t
          have okq := good.ok _ (List.getElem_mem hlt)
          have l1 : rs[i].1.1.length = many.toNat := okq.1.len
          have l2 : rs[i].1.2.length = many.toNat := okq.2.len
          refine s_for (M := M0) (s_rng (e_var (Mono.up r0 p5.ii)) (by omega) (by omega)) b_name e5.si True.intro (fun j σ' J G => ExT no I H J G ∧ DL.Sub J3 J ∧ ∃ es vs x7 x8, σ' = [some v0, some v1, some y, some (.ref dr), some (.ref d), some (.ref a), x6, x7, x8, some (.int i), some (.bl (b && !((rng many).take j).any (backW (many, lots) rs[i].1))), some v11, some v12] ∧
            CellsP P w d a (((((rng many).take j).map (nextW (many, lots) rs[i])).foldl putW rs).map Prod.fst) J G es vs) ?_ ?_ ?_ ?_
          · rintro j σ' J6 G6 J7 G7 e7 ⟨h0, h1, es', vs', y7, y8, h2, h3⟩
            exact ⟨h0.trans e7.t, h1.trans e7.ii, es', vs', y7, y8, h2, h3.ext e7.t⟩
          · intro J6 G6 e7 c7
            exact ⟨p5.trans e7.t, e7.ii, es, vs, x7, x8, by rw [List.take_zero, List.any_nil, Bool.not_false, Bool.and_true]; rfl, cl.ext (e45.trans e7).t⟩
          · rintro I0 s0 j hj σ1 σ2 J5 G5 sJ5 sG5 _ ⟨h0, h1, es', vs', y7, y8, rfl, cl5⟩ ⟨v7, rfl, r7⟩
            have hk := mem_rng (List.getElem_mem hj)
            have kj : KindOk (many, lots) (rng many)[j] := hk
            have r11' := Mono.up r11 h1
            have r12' := Mono.up r12 h1
            have gj := (nexts_good (p := (many, lots)) hp good hq (ks := (rng many).take j) fun k hk => mem_rng (List.mem_of_mem_take hk)).few hp
            have le : es'.length = ((((rng many).take j).map (nextW (many, lots) rs[i])).foldl putW rs).length := by rw [← List.length_map (f := fun x : NE => x.1), cl5.fe, List.length_map]
            have lv' := (Paired.length cl5.pv).trans (List.length_map _)
            have same : (isOut lots rs[i].1.1 (rng many)[j] && !isOut lots rs[i].1.2 (rng many)[j]) = backW (many, lots) rs[i].1 (rng many)[j] := by
              rw [isOut_in (p := (many, lots)) hp l1 kj, isOut_in (p := (many, lots)) hp l2 kj, Bool.not_not, Bool.and_comm]
              rfl
            refine s_ifSet (old := b && !((rng many).take j).any (backW (many, lots) rs[i].1)) ((c_and (c_val (e_call (a_cons (e_var (Mono.up r1 h0.ii)) (a_cons (e_var r11') (a_cons (e_var r7) a_nil))) (outp l1))) (fun _ => c_not (c_val (e_call (a_cons (e_var (Mono.up r1 h0.ii)) (a_cons (e_var r12') (a_cons (e_var r7) a_nil))) (outp l2))))).eq same) rfl sG5 (fun J6 G6 e6 => ?_)
            rw [any_snoc (p := (many, lots)) hj]
            have cl6 := cl5.ext e6.t
            have ry6 : dT dI J6 y (capsOf (many, lots)) := Mono.up ry (((q1.trans e45.ii).trans h1).trans e6.ii)
            dsimp only [tSeq]
            refine s_asg (M := M0) (R := dPr) (x := nextP (many, lots) rs[i].1 (rng many)[j]) (e_pair ((e_call (a_cons (e_var ry6) (a_cons (e_var (Mono.up r1 (h0.ii.trans e6.ii))) (a_cons (e_var (Mono.up r11' e6.ii)) (a_cons (e_var (Mono.up r7 e6.ii)) a_nil)))) (pre l1 kj)).eq (onE l1)) ((e_call (a_cons (e_var ry6) (a_cons (e_var (Mono.up r1 (h0.ii.trans e6.ii))) (a_cons (e_var (Mono.up r12' e6.ii)) (a_cons (e_var (Mono.up r7 e6.ii)) a_nil)))) (pre l2 kj)).eq (onE l2))) e6.si True.intro (fun v8 J7 G7 e7 c7 q8 => ?_)
            have tk : (((rng many).take (j + 1)).map (nextW (many, lots) rs[i])).foldl putW rs = putW ((((rng many).take j).map (nextW (many, lots) rs[i])).foldl putW rs) (nextW (many, lots) rs[i] (rng many)[j]) := by rw [take_snoc hj, List.map_append, List.foldl_append]; rfl
            have cl7 := cl6.ext e7.t
            have e67 := e6.trans e7
            refine s_if (M := M0) (c_val (e_nsNotIn rfl cl7.gd (fun z => z) cl7.ks (e_var q8))) e7.si True.intro (fun hc J8 G8 e8 c8 => ?_) (fun hc J8 G8 e8 c8 => ?_)
            · have hn : (nextW (many, lots) rs[i] (rng many)[j]).1 ∉ ((((rng many).take j).map (nextW (many, lots) rs[i])).foldl putW rs).map Prod.fst := by rw [← cl7.fe]; show nextP (many, lots) rs[i].1 (rng many)[j] ∉ _; simpa using hc
              have cl8 := cl7.ext e8.t
              refine s_nsPut (M := M0) rfl cl8.gd cl8.jd (fun z => z) cl8.ks e_bl (e_var (Mono.up q8 e8.ii)) e8.si True.intro (by rw [cl8.fe]; exact hn) (by rw [sizeLine_eq]; omega) (fun q J10 G10 e12 c12 g10 g11 kq => ?_)
              have cl10 := cl8.ext e12.t
              have e78 := (e67.trans e8).trans e12
              refine s_append (M := M0) (R := dPr) rfl (by rw [upd_ne ad]; exact cl10.ga) cl10.ja (fun z => z) (e_var (Mono.up q8 (e8.ii.trans e12.ii))) (e12.si.cell g11) True.intro (by rw [sizeLine_eq]; omega) (fun u J11 G11 e13 c13 k1 k2 ru => ?_)
              obtain ⟨y1, y2, y3⟩ := CellsP.puts (x := nextW (many, lots) rs[i] (rng many)[j]) ad (.inr hd) (.inr ha) h0 cl5 e78.t e78.t kq hn e13 k1 k2 ru
              exact ⟨J11, sJ5.trans y2, y1.si, True.intro, y1, h1.trans y2, _, _, _, _, rfl, tk ▸ y3⟩
            · have hn : (nextW (many, lots) rs[i] (rng many)[j]).1 ∈ ((((rng many).take j).map (nextW (many, lots) rs[i])).foldl putW rs).map Prod.fst := by rw [← cl7.fe]; show nextP (many, lots) rs[i].1 (rng many)[j] ∈ _; simpa using hc
              have e68 := e67.trans e8
              exact ⟨J8, sJ5.trans e68.ii, e8.si, True.intro, h0.trans e68.t, h1.trans e68.ii, _, _, _, _, rfl, by rw [tk, putW_old hn]; exact cl7.ext e8.t⟩
          · rintro σ1 J5 G5 sJ5 sG5 _ ⟨h0, h1, es', vs', y7, y8, rfl, cl5⟩
            rw [List.take_length] at cl5
            rw [List.take_length]
            obtain ⟨n', rfl⟩ : ∃ n', n = n' + 1 := ⟨n - 1, by omega⟩
            have tg := turnW_good (p := (many, lots)) hp good hq
            have l3 : rs.length ≤ (turnW (many, lots) rs[i] rs).length := (puts_pre _ _).length_le
            refine s_asg (M := M0) (R := dI) (x := (i : Int) + 1) (e_i2 (e_var (R := dI) (x := (i : Int)) rfl) e_int) sG5 True.intro (fun v9 J6 G6 e6 c6 q9 => ?_)
            have e9 : v9 = V.int ((i : Int) + 1) := q9
            subst e9
            refine ⟨n', J6, Nat.lt_succ_self _, ((sJ.trans e45.ii).trans h1).trans e6.ii, e6.si, True.intro, h0.trans e6.t, ((q1.trans e45.ii).trans h1).trans e6.ii, es', vs', turnW (many, lots) rs[i] rs, _, _, _, _, _, _, i + 1, rfl, cl5.ext e6.t, tg, by omega, by omega, ?_⟩
            rw [← hb, law_on hq]
        · have hge : rs.length ≤ i := by have := of_decide_eq_false ht; omega
          have e5 := q0.trans e4.t
          rw [law_end hge] at hb
          have cl2 := cl.ext e4.t
          have z9 := e5.seal ha cl2.ga cl2.ja
          have b1 : b = (foundW (many, lots)).2.isNone := by rw [found_law, ← hb]
          have b2 : rs = allW (many, lots) := by rw [← law_all, ← hb]
          refine s_ret (M := M0) (e_pair (R := dB) (S := dL dPr) (x := b) (y := rs.map Prod.fst) (e_var (R := dB) rfl) (e_var ⟨a, vs, rfl, upd_same, paired_up cl2.pv (Sub.in_ cl2.ja)⟩)) z9.si True.intro (fun v J8 G8 e10 c10 r => k v J8 G8 (z9.trans e10.t) ?_)
          rw [← b1, ← b2]
          exact r
end
end KK

namespace KK
open PySem PySem.Spec PyProof.Rows L2 RZ DL
theorem capsOf_get {p : Kd} {i : Nat} (hi : i < p.1.toNat) : (capsOf p).getD i 0 = maxL (p.2.map (fun l => l.getD i 0) ++ [0]) := by
  unfold capsOf
  rw [List.getD_eq_getElem?_getD, List.getElem?_map, List.getElem?_eq_getElem (by rw [rng_length]; exact hi), rng_get]
  rfl
theorem capped_law {lots : List (List Int)} {c : List Int} : ((enum c).map fun q => if maxL (lots.map (fun l => l.getD q.1.toNat 0) ++ [0]) < q.2 then maxL (lots.map (fun l => l.getD q.1.toNat 0) ++ [0]) else q.2) = capL (capsOf ((c.length : Int), lots)) c := by
  have cl : c.length = (capsOf ((c.length : Int), lots)).length := by rw [capsOf_len]; show c.length = ((c.length : Nat) : Int).toNat; omega
  show _ = (c.zip (capsOf ((c.length : Int), lots))).map fun q => if q.2 < q.1 then q.2 else q.1
  rw [← capped_enum cl]
  apply List.map_congr_left
  intro q hq
  obtain ⟨i, hi, e⟩ := List.getElem_of_mem hq
  obtain ⟨h1, e1⟩ := enum_get hi
  rw [← e, e1]
  have g := capsOf_get (p := ((c.length : Int), lots)) (i := i) (by show i < ((c.length : Nat) : Int).toNat; omega)
  show (if maxL (lots.map (fun l => l.getD ((i : Int)).toNat 0) ++ [0]) < c[i] then maxL (lots.map (fun l => l.getD ((i : Int)).toNat 0) ++ [0]) else c[i]) = if (capsOf ((c.length : Int), lots)).getD ((i : Int)).toNat 0 < c[i] then (capsOf ((c.length : Int), lots)).getD ((i : Int)).toNat 0 else c[i]
  rw [Int.toNat_natCast, g]
/-- counts, capped, are where the row leads to -/
theorem state_counts {p : Kd} {row : List Int} (hp : KOk p) (hr : ∀ k ∈ row, 0 ≤ k ∧ k < p.1) : capL (capsOf p) (countedK p row (enteredK p row) 1) = (runK p (begin_ p) row).2 := by
  have h := run_eq (row := row) hp rfl (begin_len p) hr
  rw [capL_begin rfl] at h
  rw [h.1]
  congr 1
  exact h.2
theorem cut_row {row : List Int} {place : Int} (h0 : 0 ≤ place) (h1 : place ≤ row.length) : cut row none (some place) = row.take place.toNat ∧ cut row (some place) none = row.drop place.toNat := ⟨cut_to h0 h1, cut_from h0 h1⟩
theorem more_in {p : Kd} (hp : LotsOk p.1 p.2) {row : List Int} {k : Int} (n : Nat) (hr : ∀ c ∈ row, 0 ≤ c ∧ c < p.1) (hk : 0 ≤ k ∧ k < p.1) : ((runK p (begin_ p) row).2, (runK p (begin_ p) (row.take n ++ [k] ++ row.drop n)).2) ∈ (allW p).map Prod.fst := by
  have z := pair_in hp (a := row.take n) (b := row.drop n) (k := k) (fun c hc => hr c (List.mem_of_mem_take hc)) hk (fun c hc => hr c (List.mem_of_mem_drop hc))
  rw [List.take_append_drop] at z
  exact z
section
variable {α : Type} {M : Mode} {σ : L2.St} {I H : Hp} {ta tb : TE}
theorem e_isB {x y : Bool} (ha : D M ta σ I H dB x) (hb : D M tb σ I H dB y) : D M (tOp (fun x y H Q => ∃ a b, x = .bl a ∧ y = .bl b ∧ Q (.bl (decide (a = b))) H) ta tb) σ I H dB (decide (x = y)) := fun I1 H1 e c Q k =>
  ha I1 H1 e c _ fun v I2 H2 e2 c2 r => hb I2 H2 (e.trans e2) c2 _ fun w I3 H3 e3 c3 r3 => ⟨x, y, r, r3, k _ I3 H3 (e2.trans e3) c3 rfl⟩
/-- told on with nothing more known -/
theorem keep_fin {m : Addr → Prop} {I1 H1 J G : Hp} (x : Ex m I H I H1) (s : DL.Sub I I1) (e : Ex m I1 H1 J G) : Ex m I H I G :=
  ⟨fun b o h => e.si _ _ (e.ii _ _ (s _ _ h)), Sub.refl, fun b o n h => e.kp b o n (x.kp b o n h), fun b h => e.dm b (x.dm b h), fun b h => .inl h⟩
theorem hm_down {hp c : Addr} {I J G : Hp} (s : DL.Sub I J) (h : (HM hp c).C J G) : (HM hp c).C I G := by
  obtain ⟨a, a0, h1, h2, h3, h4⟩ := h
  exact ⟨a, a0, h1, s.nn h2, h3, h4⟩
theorem s_parT {R : Rel α} [Mono R] {hp c : Addr} {tx : TE} {tg : TA} {E : Ends} {i j : Nat} {many : Int} {lots : List (List Int)} {x : α} (dx : D (HM hp c) tx σ I H R x) (ha : DA (HM hp c) tg σ I H (aCons dI (aCons (dT (dT dI)) aNil)) (many, lots, ())) (hl : LotsOk many lots) (s : DL.Sub I H) (cc : (HM hp c).C I H)
    (k : ∀ v u I1 H1, Ex (HM hp c).m I H I H1 → DL.Sub I I1 → DL.Sub I1 H1 → (HM hp c).C I1 H1 → R I1 v x → dP dB (dL dPr) I1 u ((foundW (many, lots)).2.isNone, (allW (many, lots)).map Prod.fst) → E.nx ((σ.set i (some v)).set j (some u)) H1) : tPar i j (tCons tx (tCons (tCall spT_pairs [] L2.E0 tg) tNil)) E σ H :=
  dx.use s cc fun v I1 H1 e1 c1 r => ha I1 H1 e1 c1 _ fun vs I2 H2 e2 c2 q => ⟨I2, _, e2.si, by rw [List.append_nil]; exact q, hl, fun u I' H' eT ru => by
    have e12 := e1.trans e2
    have x1 : Ex (HM hp c).m I H I2 H' := e12.trans (eT.forget.of0)
    have x2 : Ex (HM hp c).m I H I H' := ⟨fun b o h => x1.si _ _ (x1.ii _ _ h), Sub.refl, x1.kp, x1.dm, fun b h => .inl h⟩
    obtain ⟨a, a0, h1, h2, h3, h4⟩ := c2
    have g1 := eT.kp _ _ (fun z => z) h1
    have c' : (HM hp c).C I' H' := ⟨a, a0, g1, eT.out h2 g1 (by rw [h1]; simp) (fun ⟨xs, z⟩ => by cases z), eT.kp _ _ (fun z => z) h3, h4⟩
    exact ⟨v, u, rfl, k v u I' H' x2 (e12.ii.trans eT.ii) eT.si c' (Mono.up r (e2.ii.trans eT.ii)) ru⟩⟩
end
section
variable {P : Program} {w : World} {K : PySem.W.Frag} {mg : Str → Option Value} {base : Heap}
abbrev sp_law_capped : Sp := DL.sp (aCons (dT (dT dI)) (aCons (dT dI) aNil)) (fun x => LotsOk (x.2.1.length : Int) x.1) (dT dI) (fun x => capL (capsOf ((x.2.1.length : Int), x.1)) x.2.1)
abbrev s_law_capped : Stmt := topS 48
abbrev N_law_capped : List Str := ["lots", "counts", "kind", "count", "lot"]
theorem sc_law_capped : FnScope N_law_capped ["lots", "counts"] (defScope s_law_capped) := ⟨rfl, rfl, rfl, by decide +kernel, rfl, by decide +kernel, by decide +kernel⟩
theorem mk_law_capped {f : Addr} {fd : FuncData} (F : Df K mg "_law_capped" s_law_capped ["lots", "counts"] f fd) (T : Txt mg) : Cal P w K mg base 1 "_law_capped" sp_law_capped := by
  refine Cal.of F (F.fn.ok sc_law_capped (fun vs H Q E h => ?_) (fun cdv A outer s H vs Q E hr h => ?_))
  · obtain ⟨I, x, si, ⟨v0, _, rfl, r0, v1, _, rfl, r1, rfl⟩, hp, k⟩ := h
    rfl
  · obtain ⟨I, ⟨lots, counts, ⟨⟩⟩, si, ⟨v0, _, rfl, r0, v1, _, rfl, r1, rfl⟩, hp, k⟩ := h
    replace hp : LotsOk (counts.length : Int) lots := hp
    dsimp only at *
    have few : lots.length ≤ 12 := hp.few
    have hi3 : counts.length ≤ 3 := by have := hp.hi; omega
    have kok := hp.kok
    refine ⟨_, (pss_one (ps_ret (ktuple K (by rfl) T.b_tuple (by exact (pe_lc (own := [("kind", 2), ("count", 3)]) (g := gTup K 2 (gCons (gName 2) (gCons (gName 3) (gNil)))) rfl sc_law_capped.nd (kenum K rfl T.b_enumerate (pa_cons (pv 1) pa_nil)) (by exact (blkOk_by (N := N_law_capped) (sc := (defScope s_law_capped)) (by decide +kernel))) (fun _ _ _ _ _ => by exact (kgtup K rfl (pgs_cons (pg_name (i := 2) sc_law_capped.nd rfl (Or.inr rfl)) (pgs_cons (pg_name (i := 3) sc_law_capped.nd rfl (Or.inl rfl)) pgs_nil)))) (fun _ _ _ _ _ => by exact pts_nil) (fun _ _ _ _ _ => by exact (pe_callB (call_min2 rfl) (by rfl) T.b_min boot_min (pa_cons (pv 3) (pa_cons (pe_callB (kmax K rfl) (by rfl) T.b_max boot_max (pa_cons (pe_op op_cat (by exact (pe_lc (own := [("lot", 4)]) (g := gName 4) rfl sc_law_capped.nd (ktup K (pv 0)) (by exact (blkOk_by (N := N_law_capped) (sc := (relS _ (defScope s_law_capped))) (by decide +kernel))) (fun _ _ _ _ _ => by exact (pg_name (i := 4) sc_law_capped.nd rfl (Or.inl rfl))) (fun _ _ _ _ _ => by exact pts_nil) (fun _ _ _ _ _ => by exact (pe_ix (kixT K) (pv 4) (pv 2) (fun _ _ => rfl))))) (pe_lst (pa_cons pe_int pa_nil))) pa_nil)) pa_nil))))))))), ?_⟩
    refine s_ret (M := M0) (e_tupleL (e_lcP (f := fun q : Int × Int => if maxL (lots.map (fun l => l.getD q.1.toNat 0) ++ [0]) < q.2 then maxL (lots.map (fun l => l.getD q.1.toNat 0) ++ [0]) else q.2) (s_enumT (e_var r1)) (by rw [enum_length, sizeLine_eq]; omega) (fun i hi v u J G x q1 q2 => e_min2 (e_var q2) (e_maxL (e_catL (e_lcN (f := fun l : List Int => l.getD ((enum counts)[i]).1.toNat 0) (s_tup (e_var (Mono.up r0 x.ii))) (by rw [sizeLine_eq]; omega) (fun i8 hi9 v13 J11 G12 x10 q14 => e_ixT (e_var q14) (e_var (Mono.up q1 x10.ii)) (atI_getD 0 ?_ ?_))) (e_lst (l_cons e_int l_nil)) (by rw [List.length_map, sizeLine_eq]; simp only [List.length_singleton]; omega)) (maxL_mem0 (by simp)) (fun y hy => maxL_le (List.mem_cons_of_mem _ hy)))))) si True.intro (fun v J G e c r => k v J G e ?_)
    · obtain ⟨hn1, he⟩ := enum_get hi
      rw [he]; exact Int.natCast_nonneg i
    · obtain ⟨hn1, he⟩ := enum_get hi
      have := kok.len _ (List.getElem_mem hi9)
      rw [he, this]
      show ((i : Nat) : Int) < ((counts.length : Nat) : Int).toNat
      omega
    · rw [capped_law] at r
      exact r
end
end KK

namespace KK
open PySem PySem.Spec PyProof.Rows L2 RZ DL
section
variable {P : Program} {w : World} {K : PySem.W.Frag} {mg : Str → Option Value} {base : Heap}
abbrev sp_is_right : Sp := spH (aCons dI (aCons (dT (dT dI)) aNil)) (fun x => LotsOk x.1 x.2.1) dB (fun _ y => y = true)
abbrev s_law_is_right : Stmt := topS 49
abbrev N_law_is_right : List Str := ["hand", "many", "lots", "kinds", "told", "is_steady", "line", "table", "turn", "row", "place", "more", "pair"]
theorem sc_law_is_right : FnScope N_law_is_right ["hand", "many", "lots"] (defScope s_law_is_right) := ⟨rfl, rfl, rfl, by decide +kernel, rfl, by decide +kernel, by decide +kernel⟩
theorem mk_law_is_right {C f : Addr} {fd : FuncData} (F : Df K mg "_law_is_right" s_law_is_right ["hand", "many", "lots"] f fd) (T : Txt mg) (KC : KindsC K C)
    (c_Kinds : CalM P w K mg base 5 "Kinds" C (sp_kinds C)) (c_law_draw : Cal P w K mg base 1 "_law_draw" sp_law_draw) (c_law_row : Cal P w K mg base 3 "_law_row" sp_law_row) (c_law_pairs : Cal P w K mg base 3 "_law_pairs" spT_pairs) (c_law_capped : Cal P w K mg base 1 "_law_capped" sp_law_capped)
    (c_entered_counts : Cal P w K mg base 6 "entered_counts" (sp_entered_counts C)) (c_steady_kinds : Cal P w K mg base 7 "steady_kinds" (sp_steady_kinds C)) (c_called_back : Cal P w K mg base 7 "called_back" (sp_called_back C)) (c_steady_table : Cal P w K mg base 7 "steady_table" (sp_steady_table C)) : Cal P w K mg base 8 "_law_is_right" sp_is_right := by
  refine Cal.of F (F.fn.ok sc_law_is_right (fun vs H Q E h => ?_) (fun cdv A outer s H vs Q E hr h => ?_))
  · obtain ⟨hp, c, r, I, x, rfl, si, cc, ⟨v1, _, rfl, r1, v2, _, rfl, r2, rfl⟩, pre, k⟩ := h
    rfl
  · obtain ⟨hp, c, r, I, ⟨many, lots, ⟨⟩⟩, rfl, si, cc, ⟨v1, _, rfl, r1, v2, _, rfl, r2, rfl⟩, hlots, k⟩ := h
    replace hlots : LotsOk many lots := hlots
    dsimp only at *
    have lo := hlots.lo
    have hi3 := hlots.hi
    have few : lots.length ≤ 12 := hlots.few
    have kok : KOk (many, lots) := hlots.kok
    refine ⟨_, (pss_cons (ps_par (i := 3) (j := 4) rfl sc_law_is_right.nd rfl rfl (by decide) rfl rfl (pa_cons (pe_mkc c_Kinds hr (by decide) (by rfl) (pa_cons (pv 1) (pa_cons (pv 2) pa_nil))) (pa_cons (pe_c c_law_pairs hr (by decide) (by rfl) (pa_cons (pv 1) (pa_cons (pv 2) pa_nil))) pa_nil)) rfl)
    (pss_cons (ps_asg (pv 4) (kgtup K rfl (pgs_cons (pg_name (i := 5) sc_law_is_right.nd rfl (Or.inl rfl)) (pgs_cons (pg_name (i := 6) sc_law_is_right.nd rfl (Or.inl rfl)) pgs_nil))))
    (pss_cons (ps_set (i := 7) sc_law_is_right.nd rfl (Or.inl rfl) (pe_c c_steady_table hr (by decide) (by rfl) (pa_cons (pv 3) pa_nil)))
    (pss_cons (ps_if (pt_not (pt_val (pv 5))) (pss_one (ps_ret (pe_and (pe_cmp (pc_isN (pv 7))) (pe_and (pe_cmp (pc_notN (pe_c c_called_back hr (by decide) (by rfl) (pa_cons (pv 3) pa_nil)))) (pe_one (pe_cmpR op_is_bl (pe_c c_steady_kinds hr (by decide) (by rfl) (pa_cons (pv 3) pa_nil)) pe_bl (nomark _))))))) pss_nil)
    (pss_cons (ps_if (PW.pt (pw_or (pt_cmpR (kneD K hr.units) (pv 7) (ktuple K (by rfl) T.b_tuple (pe_callB (ksortPr (K := K) hr.units) (by rfl) T.b_sorted boot_sorted (pa_cons (pv 6) pa_nil))) (nomark _)) (pw_or1 (pt_cmp (pc_notN (pe_c c_called_back hr (by decide) (by rfl) (pa_cons (pv 3) pa_nil))))))) (pss_one (ps_ret pe_bl)) pss_nil)
    (pss_cons (ps_for PassesOwn.never rfl (pi_range1 rfl T.b_range (pa_cons pe_int pa_nil)) (pg_name (i := 8) sc_law_is_right.nd rfl (Or.inl rfl))
    (pss_cons (ps_set (i := 9) sc_law_is_right.nd rfl (Or.inl rfl) (pe_c c_law_row hr (by decide) (by rfl) (pa_cons (pv 0) (pa_cons (pv 1) (pa_cons (pe_c c_law_draw hr (by decide) (by rfl) (pa_cons (pv 0) (pa_cons pe_int pa_nil))) pa_nil)))))
    (pss_cons (ps_set (i := 10) sc_law_is_right.nd rfl (Or.inl rfl) (pe_c c_law_draw hr (by decide) (by rfl) (pa_cons (pv 0) (pa_cons (pe_op op_add (pe_callB (klen K) (by rfl) T.b_len PySem.boot_len (pa_cons (pv 9) pa_nil)) pe_int) pa_nil))))
    (pss_cons (ps_set (i := 11) sc_law_is_right.nd rfl (Or.inl rfl) (pe_op (kcatT K) (pe_op (kcatT K) (pe_slice (kslT K) (pv 9) po_none (po_some (pv 10))) (pe_tup (pa_cons (pe_c c_law_draw hr (by decide) (by rfl) (pa_cons (pv 0) (pa_cons (pv 1) pa_nil))) pa_nil))) (pe_slice (kslT K) (pv 9) (po_some (pv 10)) po_none)))
    (pss_cons (ps_set (i := 12) sc_law_is_right.nd rfl (Or.inl rfl) (pe_tup (pa_cons (pe_c c_law_capped hr (by decide) (by rfl) (pa_cons (pv 2) (pa_cons (pe_c c_entered_counts hr (by decide) (by rfl) (pa_cons (pv 3) (pa_cons (pv 9) pa_nil))) pa_nil))) (pa_cons (pe_c c_law_capped hr (by decide) (by rfl) (pa_cons (pv 2) (pa_cons (pe_c c_entered_counts hr (by decide) (by rfl) (pa_cons (pv 3) (pa_cons (pv 11) pa_nil))) pa_nil))) pa_nil))))
    (pss_one (ps_if (pt_cmpR (knotinD (K := K) hr.units) (pv 12) (pv 7) (by with_unfolding_all rfl)) (pss_one (ps_ret pe_bl)) pss_nil)))))))
    (pss_one (ps_ret (pe_cmpR op_is_bl (pe_c c_steady_kinds hr (by decide) (by rfl) (pa_cons (pv 3) pa_nil)) pe_bl (nomark _)))))))))), ?_⟩
    refine s_parT (R := dKinds C) (x := (many, lots)) (e_kinds (a_cons (e_var r1) (a_cons (e_var r2) a_nil)) hlots) (a_cons (e_var r1) (a_cons (e_var r2) a_nil)) hlots si cc (fun v3 v4 I1 H1 x1 s1 sH1 c1 q3 q4 => ?_)
    have r1' := Mono.up r1 s1
    have r2' := Mono.up r2 s1
    have fin : ∀ {te : TE} {J G : Hp} {b : Bool} {σ : L2.St}, Ex (HM hp c).m I1 H1 J G → (HM hp c).C J G → D (HM hp c) te σ J G dB b → b = true → tRet te { nx := fun _ H' => Q .non H', rt := Q } σ G := fun {te J G b σ} e cJ d hb => s_ret (M := HM hp c) d e.si cJ (fun v J2 G2 e2 c2 r => by
      have x2 := keep_fin x1 s1 (e.trans e2)
      exact k v b I G2 x2 (hm_down ((s1.trans e.ii).trans e2.ii) c2) r hb)
    dsimp only [tSeq]
    refine s_asgG (M := HM hp c) (te := tVar 4) (σ := [some (.ref hp), some v1, some v2, some v3, some v4, none, none, none, none, none, none, none, none]) (e_var q4) b_pair sH1 c1 (fun σ3 I2 H2 e2 c2 hσ => ?_)
    obtain ⟨v5, v6, rfl, q5, q6⟩ := hσ
    replace q5 : dB I2 v5 (foundW (many, lots)).2.isNone := q5
    replace q6 : dL dPr I2 v6 ((allW (many, lots)).map Prod.fst) := q6
    refine s_asg (M := HM hp c) (e_call (x := ((many, lots), ())) (a_cons (e_var (Mono.up q3 e2.ii)) a_nil) hlots) e2.si c2 (fun v7 I3 H3 e3 c3 q7 => ?_)
    replace q7 : dO (dT dPr) I3 v7 (tableW (many, lots)) := q7
    have e23 := e2.trans e3
    have q3' := Mono.up q3 e23.ii
    refine s_if (M := HM hp c) (c_not (c_val (e_var (Mono.up q5 e3.ii)))) e3.si c3 (fun ht I4 H4 e4 c4 => ?_) (fun ht I4 H4 e4 c4 => ?_)
    · have hn : (foundW (many, lots)).2.isNone = false := by simpa using ht
      have hs : (foundW (many, lots)).2.isSome = true := by
        cases h : (foundW (many, lots)).2 with
        | none => rw [h] at hn; cases hn
        | some _ => rfl
      refine fin (e23.trans e4) c4 (e_and (e_isN (R := dT dPr) dT_some (e_var (Mono.up q7 e4.ii))) (fun _ => e_and (e_notN (R := dTr) dQ_some (e_call (x := ((many, lots), ())) (a_cons (e_var (Mono.up q3' e4.ii)) a_nil) hlots)) (fun _ => e_isB (e_call (x := ((many, lots), ())) (a_cons (e_var (Mono.up q3' e4.ii)) a_nil) hlots) e_bl))) ?_
      dsimp only
      rw [table_none hn, hn, hs]
      rfl
    · have hn : (foundW (many, lots)).2.isNone = true := by simpa using ht
      have hz : (foundW (many, lots)).2.isSome = false := by
        cases h : (foundW (many, lots)).2 with
        | none => rfl
        | some _ => rw [h] at hn; cases hn
      have ht : tableW (many, lots) = some (sortP ((allW (many, lots)).map Prod.fst)) := table_some hn
      have e24 := e23.trans e4
      have q3'' := Mono.up q3' e4.ii
      refine s_if (M := HM hp c) (b := false) ((c_or (c_test (e_neD (R := dO (dT dPr)) (e_var (Mono.up q7 e4.ii)) (e_some (e_tupleL (e_sortPr (e_var (Mono.up q6 (e3.ii.trans e4.ii)))))))) (fun _ => c_test (e_notN (R := dTr) dQ_some (e_call (x := ((many, lots), ())) (a_cons (e_var q3'') a_nil) hlots)))).eq (by
        dsimp only
        rw [ht, hz]
        simp)) e4.si c4 (fun z => absurd z Bool.false_ne_true) (fun _ I5 H5 e5 c5 => ?_)
      have e25 := e24.trans e5
      have q7t : dT dPr I3 v7 (sortP ((allW (many, lots)).map Prod.fst)) := by
        have z := q7
        rw [ht] at z
        exact z
      dsimp only [tSeq]
      refine s_for (M := HM hp c) (s_rng e_int (by decide) (by decide)) b_name e5.si c5 (fun i σ' J G => Ex (HM hp c).m I1 H1 J G ∧ DL.Sub I5 J ∧ ∃ x8 x9 x10 x11 x12, σ' = [some (.ref hp), some v1, some v2, some v3, some v4, some v5, some v6, some v7, x8, x9, x10, x11, x12]) ?_ ?_ ?_ ?_
      · rintro j σ' J6 G6 J7 G7 e7 ⟨g0, g1, y8, y9, y10, y11, y12, g2⟩
        exact ⟨g0.trans e7.of0, g1.trans e7.ii, y8, y9, y10, y11, y12, g2⟩
      · intro J6 G6 e7 c7
        exact ⟨e25.trans e7, e7.ii, none, none, none, none, none, rfl⟩
      · rintro I0 s0 i hi σ1 σ2 J6 G6 sJ6 sG6 c6 ⟨g0, g1, y8, y9, y10, y11, y12, rfl⟩ ⟨v8, rfl, r8⟩
        have r1a := Mono.up r1' g0.ii
        have r2a := Mono.up r2' g0.ii
        have q3a := Mono.up q3 g0.ii
        have row9 : N (HM hp c) (tCall sp_law_row [] L2.E0 (tCons (tVar 0) (tCons (tVar 1) (tCons (tCall sp_law_draw [] L2.E0 (tCons (tVar 0) (tCons (tC (.int 30)) tNil))) tNil)))) [some (.ref hp), some v1, some v2, some v3, some v4, some v5, some v6, some v7, some v8, y9, y10, y11, y12] J6 G6 (dT dI) (fun row => row.length ≤ 29 ∧ ∀ k ∈ row, 0 ≤ k ∧ k < many) :=
          (n_callHN rfl (na_cons (e_var r1a).n (fun m hm => na_cons (n_draw rfl e_int (by decide) (by decide)) (fun _ _ => na_nil))) (fun x hx => by
            obtain ⟨h1, h2, _⟩ := hx
            rw [h1]
            exact ⟨lo, hi3, h2.1, by omega⟩)).imp fun row hrow => by
              obtain ⟨x, ⟨h1, h2, _⟩, h3, h4⟩ := hrow
              rw [h1] at h4
              exact ⟨by omega, h4⟩
        refine n_asg (M := HM hp c) row9 sG6 c6 (fun v9 row J7 G7 e7 c7 q9 hrow => ?_)
        obtain ⟨hlen, hrow⟩ := hrow
        refine n_asg (M := HM hp c) (n_draw rfl (e_i2 (e_lenT (e_var q9)) e_int) (by omega) (by omega)) e7.si c7 (fun v10 place J8 G8 e8 c8 q10 hplace => ?_)
        obtain ⟨p0, p1⟩ := hplace
        have p1' : place ≤ (row.length : Int) := by omega
        have e78 := e7.trans e8
        obtain ⟨cu1, cu2⟩ := cut_row p0 p1'
        refine n_asg (M := HM hp c) (R := dT dI) (P := fun m => ∃ kk, (0 ≤ kk ∧ kk < many) ∧ m = row.take place.toNat ++ [kk] ++ row.drop place.toNat) (n_op (P := fun m => ∃ kk, (0 ≤ kk ∧ kk < many) ∧ m = row.take place.toNat ++ [kk]) (P2 := fun y => y = row.drop place.toNat) (n_op (P := fun y => y = row.take place.toNat) (P2 := fun y => ∃ kk, (0 ≤ kk ∧ kk < many) ∧ y = [kk]) ((e_slT (e_var (Mono.up q9 e8.ii)) o_none (o_some (e_var q10))).eq cu1).n (n_tupl (R := dI) ((nl_cons (n_draw rfl (e_var (Mono.up r1a e78.ii)) (by omega) (by omega)) nl_nil).imp (fun xs hx => by
            obtain ⟨y, ys, e1, e2, e3⟩ := hx
            exact ⟨y, e2, by rw [e1, e3]⟩)) (fun xs hx => by
            obtain ⟨kk, _, e⟩ := hx
            rw [e, sizeLine_eq]
            show 1 ≤ _
            omega)) (fun a b ha hb v u J9 G9 e9 ra rb => (e_catT (e_c ra) (e_c rb) (by
            obtain ⟨kk, _, e⟩ := hb
            rw [ha, e, sizeLine_eq, List.length_take]
            show _ + 1 ≤ _
            omega)).n.imp fun y hy => by
              obtain ⟨kk, hk, e⟩ := hb
              exact ⟨kk, hk, by rw [hy, ha, e]⟩)) ((e_slT (e_var (Mono.up q9 e8.ii)) (o_some (e_var q10)) o_none).eq cu2).n (fun a b ha hb v u J9 G9 e9 ra rb => (e_catT (e_c ra) (e_c rb) (by
            obtain ⟨kk, _, e⟩ := ha
            rw [hb, e, sizeLine_eq, List.length_append, List.length_take, List.length_drop]
            show _ + 1 + _ ≤ _
            omega)).n.imp fun y hy => by
              obtain ⟨kk, hk, e⟩ := ha
              exact ⟨kk, hk, by rw [hy, e, hb]⟩)) e8.si c8 (fun v11 more J9 G9 e9 c9 q11 hmore => ?_)
        obtain ⟨kk, hk, em⟩ := hmore
        have hall : ∀ c ∈ more, 0 ≤ c ∧ c < many := fun c hc => by
          rw [em] at hc
          rcases List.mem_append.mp hc with hc | hc
          · rcases List.mem_append.mp hc with hc | hc
            · exact hrow c (List.mem_of_mem_take hc)
            · rw [List.mem_singleton.mp hc]; exact hk
          · exact hrow c (List.mem_of_mem_drop hc)
        have lm : more.length ≤ 200 := by
          rw [em, List.length_append, List.length_append, List.length_take, List.length_drop]
          show _ + 1 + _ ≤ 200
          omega
        have e79 := e78.trans e9
        have cl : ∀ {r : List Int}, (countedK (many, lots) r (enteredK (many, lots) r) 1).length = many.toNat := fun {r} => countedK_len _ _ _ _
        have kl : ∀ {r : List Int}, (((countedK (many, lots) r (enteredK (many, lots) r) 1).length : Nat) : Int) = many := fun {r} => by rw [cl]; omega
        have capt : ∀ {r : List Int}, (∀ c ∈ r, 0 ≤ c ∧ c < many) → capL (capsOf (((countedK (many, lots) r (enteredK (many, lots) r) 1).length : Int), lots)) (countedK (many, lots) r (enteredK (many, lots) r) 1) = (runK (many, lots) (begin_ (many, lots)) r).2 := fun {r} hr => by
          rw [kl]
          exact state_counts (p := (many, lots)) kok hr
        refine s_asg (M := HM hp c) (R := dPr) (x := ((runK (many, lots) (begin_ (many, lots)) row).2, (runK (many, lots) (begin_ (many, lots)) more).2)) (e_pair ((e_call (a_cons (e_var (Mono.up r2a e79.ii)) (a_cons (e_call (a_cons (e_var (Mono.up q3a e79.ii)) (a_cons (e_var (Mono.up q9 (e8.ii.trans e9.ii))) a_nil)) ⟨kok, by show row.length ≤ 200; omega, hrow⟩) a_nil)) (by show LotsOk _ _; rw [kl]; exact hlots)).eq (capt hrow)) ((e_call (a_cons (e_var (Mono.up r2a e79.ii)) (a_cons (e_call (a_cons (e_var (Mono.up q3a e79.ii)) (a_cons (e_var q11) a_nil)) ⟨kok, lm, hall⟩) a_nil)) (by show LotsOk _ _; rw [kl]; exact hlots)).eq (capt hall))) e9.si c9 (fun v12 J10 G10 e10 c10 q12 => ?_)
        have e710 := e79.trans e10
        have hin : ((runK (many, lots) (begin_ (many, lots)) row).2, (runK (many, lots) (begin_ (many, lots)) more).2) ∈ sortP ((allW (many, lots)).map Prod.fst) := by
          rw [sortP_mem, em]
          exact more_in (p := (many, lots)) hlots place.toNat hrow hk
        refine s_if (M := HM hp c) (b := false) ((c_test (e_notInD (e_var q12) (e_var (Mono.up q7t ((e4.ii.trans e5.ii).trans (g1.trans e710.ii)))))).eq (by simpa using hin)) e10.si c10 (fun z => absurd z Bool.false_ne_true) (fun _ J11 G11 e11 c11 => ?_)
        have e711 := e710.trans e11
        exact ⟨J11, sJ6.trans e711.ii, e11.si, c11, g0.trans e711, g1.trans e711.ii, _, _, _, _, _, rfl⟩
      · rintro σ1 J6 G6 sJ6 sG6 c6 ⟨g0, g1, y8, y9, y10, y11, y12, rfl⟩
        dsimp only
        exact fin g0 c6 (e_isB (e_call (x := ((many, lots), ())) (a_cons (e_var (Mono.up q3 g0.ii)) a_nil) hlots) e_bl) (by dsimp only; rw [hn]; rfl)
end
end KK

/-! the law -/
namespace KK
open PySem PySem.Spec PyProof.Rows L2 RZ DL
theorem n_and {M : Mode} {σ : L2.St} {I H : Hp} {ta tb : TE} {P : Bool → Prop} (ha : N M ta σ I H dB (fun b => b = true)) (hb : N M tb σ I H dB P) : N M (tAndV ta tb) σ I H dB P := fun I1 H1 e c Q k =>
  ha I1 H1 e c _ fun v b I2 H2 e2 c2 r p => ⟨b, r, by
    rw [show b = true from p, if_pos rfl]
    exact hb I2 H2 (e.trans e2) c2 _ fun u y I3 H3 e3 c3 q z => k u y I3 H3 (e2.trans e3) c3 q z⟩
/-- one sort that no lot tells -/
theorem table_one : tableW (1, []) = some [([0], [0])] := by
  have e : foundW (1, []) = ([(([0], [0]), ([], 0, 0))], none) := by
    rw [foundW_is]
    decide +kernel
  unfold tableW
  rw [e]
  show some (sortP [([0], [0])]) = _
  unfold sortP
  rw [List.mergeSort_singleton]
theorem sums_lots : LotsOk 2 (summing 2 3) := by
  have f := sums_facts (m := 2) (w := 3) (by decide) (by decide) (by decide) (by decide)
  exact f.1.lots (by decide) (by decide) (f.2.2.1 (by decide)) (f.2.1.imp fun h => .inl h)
def sp_law0 (K : PySem.W.Frag) : Sp := fun vs H Q _ => ∃ (a : Addr) (xs : List Int), vs = [.ref a] ∧ SqL K H a (xs.map V.int) ∧ ∀ H', Q (.bl true) H'
section
variable {P : Program} {w : World} {K : PySem.W.Frag} {mg : Str → Option Value} {base : Heap}
abbrev s_law : Stmt := topS 50
abbrev N_law : List Str := ["script", "hand", "turn", "many", "lots", "whole"]
theorem sc_law : FnScope N_law ["script"] (defScope s_law) := ⟨rfl, rfl, rfl, by decide +kernel, rfl, by decide +kernel, by decide +kernel⟩
theorem mk_law {C f : Addr} {fd : FuncData} (F : Df K mg "law" s_law ["script"] f fd) (T : Txt mg) (KC : KindsC K C)
    (c_Kinds : CalM P w K mg base 5 "Kinds" C (sp_kinds C)) (c_law_hand : Cal P w K mg base 1 "_law_hand" (sp_law_hand K)) (c_law_some_kinds : Cal P w K mg base 4 "_law_some_kinds" sp_law_some_kinds) (c_law_is_right : Cal P w K mg base 8 "_law_is_right" sp_is_right) (c_law_summing : Cal P w K mg base 1 "_law_summing" sp_law_summing)
    (c_steady_table : Cal P w K mg base 7 "steady_table" (sp_steady_table C)) : FnOk P w K mg base L2.CX0 9 f fd ["script"] (sp_law0 K) := by
  refine (F.fn.ok sc_law (fun vs H Q E h => ?_) (fun cdv A outer s H vs Q E hr h => ?_))
  · obtain ⟨a, xs, rfl, _⟩ := h
    rfl
  · obtain ⟨a, xs, rfl, hq, k⟩ := h
    refine ⟨_, (pss_cons (ps_set (i := 1) sc_law.nd rfl (Or.inl rfl) (pe_c c_law_hand hr (by decide) (by rfl) (pa_cons (pv 0) pa_nil)))
    (pss_cons (ps_for PassesOwn.never rfl (pi_range1 rfl T.b_range (pa_cons pe_int pa_nil)) (pg_name (i := 2) sc_law.nd rfl (Or.inl rfl))
    (pss_cons (ps_asg (pe_c c_law_some_kinds hr (by decide) (by rfl) (pa_cons (pv 1) pa_nil)) (kgtup K rfl (pgs_cons (pg_name (i := 3) sc_law.nd rfl (Or.inl rfl)) (pgs_cons (pg_name (i := 4) sc_law.nd rfl (Or.inl rfl)) pgs_nil))))
    (pss_one (ps_if (pt_not (pt_val (pe_c c_law_is_right hr (by decide) (by rfl) (pa_cons (pv 1) (pa_cons (pv 3) (pa_cons (pv 4) pa_nil)))))) (pss_one (ps_ret pe_bl)) pss_nil))))
    (pss_cons (ps_set (i := 5) sc_law.nd rfl (Or.inl rfl) (pe_c c_law_summing hr (by decide) (by rfl) (pa_cons pe_int (pa_cons pe_int pa_nil))))
    (pss_one (ps_ret (pe_and (pe_c c_law_is_right hr (by decide) (by rfl) (pa_cons (pv 1) (pa_cons pe_int (pa_cons (pv 5) pa_nil)))) (pe_one (pe_cmpR (keqD K hr.units) (pe_c c_steady_table hr (by decide) (by rfl) (pa_cons (pe_mkc c_Kinds hr (by decide) (by rfl) (pa_cons pe_int (pa_cons (pe_tup pa_nil) pa_nil))) pa_nil)) (pe_tup (pa_cons (pe_tup (pa_cons (pe_tup (pa_cons pe_int pa_nil)) (pa_cons (pe_tup (pa_cons pe_int pa_nil)) pa_nil))) pa_nil)) (nomark _))))))))), ?_⟩
    refine ⟨.ref a, rfl, a, xs, rfl, hq, fun hp c I1 H1 e1 c1 => ?_⟩
    dsimp only [tSeq]
    refine s_for (M := HM hp c) (I := I1) (s_rng e_int (by decide) (by decide)) b_name e1.si c1 (fun i σ' J G => ∃ x2 x3 x4 x5, σ' = [some (.ref a), some (.ref hp), x2, x3, x4, x5]) ?_ ?_ ?_ ?_
    · rintro j σ' J5 G5 J6 G6 e7 h
      exact h
    · intro J5 G5 e7 c7
      exact ⟨none, none, none, none, rfl⟩
    · rintro I0 s0 i hi σ1 σ2 J G sJ sG cJ ⟨x2, x3, x4, x5, rfl⟩ ⟨v2, rfl, r2⟩
      refine n_asgG (M := HM hp c) (P := fun (p : Int × List (List Int)) => LotsOk p.1 p.2) (n_callH (P := fun (_ : Unit) (p : Int × List (List Int)) => LotsOk p.1 p.2) rfl a_nil True.intro) b_pair sG cJ (fun σ2 p I3 H3 e3 c3 hlots hσ => ?_)
      obtain ⟨many, lots⟩ := p
      obtain ⟨v3, v4, rfl, r3, r4⟩ := hσ
      replace hlots : LotsOk many lots := hlots
      replace r3 : dI I3 v3 many := r3
      replace r4 : dT (dT dI) I3 v4 lots := r4
      dsimp only
      refine s_ifN (M := HM hp c) (nt_not (nt_val (n_callH (P := fun (_ : Int × List (List Int) × Unit) (y : Bool) => y = true) (pre := fun x => LotsOk x.1 x.2.1) rfl (a_cons (e_var r3) (a_cons (e_var r4) a_nil)) hlots))) e3.si c3 (fun z => by cases z) (fun _ L2 N2 e6 c6 => ?_)
      exact ⟨L2, (sJ.trans e3.ii).trans e6.ii, e6.si, c6, _, _, _, _, rfl⟩
    · rintro σ1 J G sJ sG cJ ⟨x2, x3, x4, x5, rfl⟩
      dsimp only [tSeq]
      refine s_asg (M := HM hp c) (e_call (x := ((2 : Int), (3 : Int), ())) (a_cons e_int (a_cons e_int a_nil)) ⟨by decide, by decide, by decide, by decide⟩) sG cJ (fun v5 J2 G2 e2 c2 q5 => ?_)
      replace q5 : dT (dT dI) J2 v5 (summing 2 3) := q5
      dsimp only
      refine n_ret (M := HM hp c) (P := fun b => b = true) (n_and (n_callH (P := fun (_ : Int × List (List Int) × Unit) (y : Bool) => y = true) (pre := fun x => LotsOk x.1 x.2.1) rfl (a_cons e_int (a_cons (e_var q5) a_nil)) sums_lots) ((e_eqD (R := dO (dT dPr)) (e_call (x := (((1 : Int), ([] : List (List Int))), ())) (a_cons (e_kinds (a_cons e_int (a_cons (e_tup l_nil) a_nil)) (lots_nil (m := 1) (by decide) (by decide))) a_nil) (lots_nil (m := 1) (by decide) (by decide))) (e_some (e_tup (l_cons (e_pair (R := dT dI) (S := dT dI) (x := [0]) (y := [0]) (e_tup (l_cons e_int l_nil)) (e_tup (l_cons e_int l_nil))) l_nil)))).eq (by show decide (tableW (1, []) = some [([0], [0])]) = true; rw [table_one]; rfl)).n) e2.si c2 (fun v b J3 G3 e3 c3 r hb => ?_)
      have ev : v = V.bl true := by rw [show v = V.bl b from r, show b = true from hb]
      rw [ev]
      exact k G3
end
end KK

namespace KK
open PySem PySem.Spec PyProof.Rows L2 RZ DL
section
variable {P : Program} {w : World} {K : PySem.W.Frag} {mg : Str → Option Value}
theorem df_mk {h : Heap} {x : Str} {st : Stmt} {ps : List Str} {f : Addr} {oc : Value} {od an : Option Addr} {osl : Array (Option Value)} {kV doc pm cdv ct : Value} (X : K.In h) (G : h.Ns mainGlobals mg)
    (hb : ∀ (kV doc pm : Value) (an : Option Addr) (cdv ct : Value) (us : List Value), us.length = ps.length → bindArgs (PySem.W.fnOf x x (defArgs st) (defBody st) (defScope st) .none kV doc pm an cdv ct) ⟨us, []⟩ = pure (ps.zip us))
    (a : PySem.W.nsIn K mainGlobals x = some (some (.ref f))) (l : K.lookup f = some ⟨oc, od, .func (PySem.W.fnOf x x (defArgs st) (defBody st) (defScope st) .none kV doc pm an cdv ct), osl⟩)
    (c : PySem.W.codeIn K cdv x = true) (k : PySem.W.keepIn K (.ref f) = true) : Df K mg x st ps f (PySem.W.fnOf x x (defArgs st) (defBody st) (defScope st) .none kV doc pm an cdv ct) :=
  ⟨L2.fun_mk l c k, PySem.W.mg_of X G a, (L2.fun_mk l c k).binds hb⟩
theorem df_ex {h : Heap} {x : Str} {st : Stmt} {ps : List Str} {f : Addr} {oc : Value} {od an : Option Addr} {osl : Array (Option Value)} {kV doc pm cdv ct : Value} (X : K.In h) (G : h.Ns mainGlobals mg)
    (hb : ∀ (kV doc pm : Value) (an : Option Addr) (cdv ct : Value) (us : List Value), us.length = ps.length → bindArgs (PySem.W.fnOf x x (defArgs st) (defBody st) (defScope st) .none kV doc pm an cdv ct) ⟨us, []⟩ = pure (ps.zip us))
    (a : PySem.W.nsIn K mainGlobals x = some (some (.ref f))) (l : K.lookup f = some ⟨oc, od, .func (PySem.W.fnOf x x (defArgs st) (defBody st) (defScope st) .none kV doc pm an cdv ct), osl⟩)
    (c : PySem.W.codeIn K cdv x = true) (k : PySem.W.keepIn K (.ref f) = true) : ∃ f fd, Df K mg x st ps f fd := ⟨_, _, df_mk X G hb a l c k⟩
theorem df_law {h : Heap} {x : Str} {st : Stmt} {ps : List Str} {f fa : Addr} {oc : Value} {od an : Option Addr} {osl : Array (Option Value)} {kV doc pm cdv ct : Value} (X : K.In h) (G : h.Ns mainGlobals mg) (hfa : mg x = some (.ref fa))
    (hb : ∀ (kV doc pm : Value) (an : Option Addr) (cdv ct : Value) (us : List Value), us.length = ps.length → bindArgs (PySem.W.fnOf x x (defArgs st) (defBody st) (defScope st) .none kV doc pm an cdv ct) ⟨us, []⟩ = pure (ps.zip us))
    (a : PySem.W.nsIn K mainGlobals x = some (some (.ref f))) (l : K.lookup f = some ⟨oc, od, .func (PySem.W.fnOf x x (defArgs st) (defBody st) (defScope st) .none kV doc pm an cdv ct), osl⟩)
    (c : PySem.W.codeIn K cdv x = true) (k : PySem.W.keepIn K (.ref f) = true) : ∃ kV doc pm an cdv ct, Df K mg x st ps fa (PySem.W.fnOf x x (defArgs st) (defBody st) (defScope st) .none kV doc pm an cdv ct) := by
  have e := hfa.symm.trans (PySem.W.mg_of X G a)
  cases e
  exact ⟨_, _, _, _, _, _, df_mk X G hb a l c k⟩

theorem bind_law_capped (kV doc pm : Value) (an : Option Addr) (cdv ct : Value) (us : List Value) (hl : us.length = (["lots", "counts"] : List Str).length) : bindArgs (PySem.W.fnOf "_law_capped" "_law_capped" (defArgs s_law_capped) (defBody s_law_capped) (defScope s_law_capped) .none kV doc pm an cdv ct) ⟨us, []⟩ = pure ((["lots", "counts"] : List Str).zip us) := match us, hl with | [_, _], _ => rfl
theorem bind_law_draw (kV doc pm : Value) (an : Option Addr) (cdv ct : Value) (us : List Value) (hl : us.length = (["hand", "many"] : List Str).length) : bindArgs (PySem.W.fnOf "_law_draw" "_law_draw" (defArgs s_law_draw) (defBody s_law_draw) (defScope s_law_draw) .none kV doc pm an cdv ct) ⟨us, []⟩ = pure ((["hand", "many"] : List Str).zip us) := match us, hl with | [_, _], _ => rfl
theorem bind_law_hand (kV doc pm : Value) (an : Option Addr) (cdv ct : Value) (us : List Value) (hl : us.length = (["script"] : List Str).length) : bindArgs (PySem.W.fnOf "_law_hand" "_law_hand" (defArgs s_law_hand) (defBody s_law_hand) (defScope s_law_hand) .none kV doc pm an cdv ct) ⟨us, []⟩ = pure ((["script"] : List Str).zip us) := match us, hl with | [_], _ => rfl
theorem bind_law_is_out (kV doc pm : Value) (an : Option Addr) (cdv ct : Value) (us : List Value) (hl : us.length = (["lots", "stand", "kind"] : List Str).length) : bindArgs (PySem.W.fnOf "_law_is_out" "_law_is_out" (defArgs s_law_is_out) (defBody s_law_is_out) (defScope s_law_is_out) .none kV doc pm an cdv ct) ⟨us, []⟩ = pure ((["lots", "stand", "kind"] : List Str).zip us) := match us, hl with | [_, _, _], _ => rfl
theorem bind_law_is_right (kV doc pm : Value) (an : Option Addr) (cdv ct : Value) (us : List Value) (hl : us.length = (["hand", "many", "lots"] : List Str).length) : bindArgs (PySem.W.fnOf "_law_is_right" "_law_is_right" (defArgs s_law_is_right) (defBody s_law_is_right) (defScope s_law_is_right) .none kV doc pm an cdv ct) ⟨us, []⟩ = pure ((["hand", "many", "lots"] : List Str).zip us) := match us, hl with | [_, _, _], _ => rfl
theorem bind_law_kinds (kV doc pm : Value) (an : Option Addr) (cdv ct : Value) (us : List Value) (hl : us.length = (["hand", "many"] : List Str).length) : bindArgs (PySem.W.fnOf "_law_kinds" "_law_kinds" (defArgs s_law_kinds) (defBody s_law_kinds) (defScope s_law_kinds) .none kV doc pm an cdv ct) ⟨us, []⟩ = pure ((["hand", "many"] : List Str).zip us) := match us, hl with | [_, _], _ => rfl
theorem bind_law_on (kV doc pm : Value) (an : Option Addr) (cdv ct : Value) (us : List Value) (hl : us.length = (["caps_v", "lots", "stand", "kind"] : List Str).length) : bindArgs (PySem.W.fnOf "_law_on" "_law_on" (defArgs s_law_on) (defBody s_law_on) (defScope s_law_on) .none kV doc pm an cdv ct) ⟨us, []⟩ = pure ((["caps_v", "lots", "stand", "kind"] : List Str).zip us) := match us, hl with | [_, _, _, _], _ => rfl
theorem bind_law_pairs (kV doc pm : Value) (an : Option Addr) (cdv ct : Value) (us : List Value) (hl : us.length = (["many", "lots"] : List Str).length) : bindArgs (PySem.W.fnOf "_law_pairs" "_law_pairs" (defArgs s_law_pairs) (defBody s_law_pairs) (defScope s_law_pairs) .none kV doc pm an cdv ct) ⟨us, []⟩ = pure ((["many", "lots"] : List Str).zip us) := match us, hl with | [_, _], _ => rfl
theorem bind_law_row (kV doc pm : Value) (an : Option Addr) (cdv ct : Value) (us : List Value) (hl : us.length = (["hand", "many", "long"] : List Str).length) : bindArgs (PySem.W.fnOf "_law_row" "_law_row" (defArgs s_law_row) (defBody s_law_row) (defScope s_law_row) .none kV doc pm an cdv ct) ⟨us, []⟩ = pure ((["hand", "many", "long"] : List Str).zip us) := match us, hl with | [_, _, _], _ => rfl
theorem bind_law_some (kV doc pm : Value) (an : Option Addr) (cdv ct : Value) (us : List Value) (hl : us.length = (["hand", "things"] : List Str).length) : bindArgs (PySem.W.fnOf "_law_some" "_law_some" (defArgs s_law_some) (defBody s_law_some) (defScope s_law_some) .none kV doc pm an cdv ct) ⟨us, []⟩ = pure ((["hand", "things"] : List Str).zip us) := match us, hl with | [_, _], _ => rfl
theorem bind_law_some_kinds (kV doc pm : Value) (an : Option Addr) (cdv ct : Value) (us : List Value) (hl : us.length = (["hand"] : List Str).length) : bindArgs (PySem.W.fnOf "_law_some_kinds" "_law_some_kinds" (defArgs s_law_some_kinds) (defBody s_law_some_kinds) (defScope s_law_some_kinds) .none kV doc pm an cdv ct) ⟨us, []⟩ = pure ((["hand"] : List Str).zip us) := match us, hl with | [_], _ => rfl
theorem bind_law_stands (kV doc pm : Value) (an : Option Addr) (cdv ct : Value) (us : List Value) (hl : us.length = (["many", "lots"] : List Str).length) : bindArgs (PySem.W.fnOf "_law_stands" "_law_stands" (defArgs s_law_stands) (defBody s_law_stands) (defScope s_law_stands) .none kV doc pm an cdv ct) ⟨us, []⟩ = pure ((["many", "lots"] : List Str).zip us) := match us, hl with | [_, _], _ => rfl
theorem bind_law_summing (kV doc pm : Value) (an : Option Addr) (cdv ct : Value) (us : List Value) (hl : us.length = (["many", "whole"] : List Str).length) : bindArgs (PySem.W.fnOf "_law_summing" "_law_summing" (defArgs s_law_summing) (defBody s_law_summing) (defScope s_law_summing) .none kV doc pm an cdv ct) ⟨us, []⟩ = pure ((["many", "whole"] : List Str).zip us) := match us, hl with | [_, _], _ => rfl
theorem bind_law_with_odd (kV doc pm : Value) (an : Option Addr) (cdv ct : Value) (us : List Value) (hl : us.length = (["hand", "many", "some"] : List Str).length) : bindArgs (PySem.W.fnOf "_law_with_odd" "_law_with_odd" (defArgs s_law_with_odd) (defBody s_law_with_odd) (defScope s_law_with_odd) .none kV doc pm an cdv ct) ⟨us, []⟩ = pure ((["hand", "many", "some"] : List Str).zip us) := match us, hl with | [_, _, _], _ => rfl
theorem bind_all_states (kV doc pm : Value) (an : Option Addr) (cdv ct : Value) (us : List Value) (hl : us.length = (["kinds"] : List Str).length) : bindArgs (PySem.W.fnOf "all_states" "all_states" (defArgs s_all_states) (defBody s_all_states) (defScope s_all_states) .none kV doc pm an cdv ct) ⟨us, []⟩ = pure ((["kinds"] : List Str).zip us) := match us, hl with | [_], _ => rfl
theorem bind_begin (kV doc pm : Value) (an : Option Addr) (cdv ct : Value) (us : List Value) (hl : us.length = (["kinds"] : List Str).length) : bindArgs (PySem.W.fnOf "begin" "begin" (defArgs s_begin) (defBody s_begin) (defScope s_begin) .none kV doc pm an cdv ct) ⟨us, []⟩ = pure ((["kinds"] : List Str).zip us) := match us, hl with | [_], _ => rfl
theorem bind_called_back (kV doc pm : Value) (an : Option Addr) (cdv ct : Value) (us : List Value) (hl : us.length = (["kinds"] : List Str).length) : bindArgs (PySem.W.fnOf "called_back" "called_back" (defArgs s_called_back) (defBody s_called_back) (defScope s_called_back) .none kV doc pm an cdv ct) ⟨us, []⟩ = pure ((["kinds"] : List Str).zip us) := match us, hl with | [_], _ => rfl
theorem bind_capped (kV doc pm : Value) (an : Option Addr) (cdv ct : Value) (us : List Value) (hl : us.length = (["kinds", "counts"] : List Str).length) : bindArgs (PySem.W.fnOf "capped" "capped" (defArgs s_capped) (defBody s_capped) (defScope s_capped) .none kV doc pm an cdv ct) ⟨us, []⟩ = pure ((["kinds", "counts"] : List Str).zip us) := match us, hl with | [_, _], _ => rfl
theorem bind_caps (kV doc pm : Value) (an : Option Addr) (cdv ct : Value) (us : List Value) (hl : us.length = (["kinds"] : List Str).length) : bindArgs (PySem.W.fnOf "caps" "caps" (defArgs s_caps) (defBody s_caps) (defScope s_caps) .none kV doc pm an cdv ct) ⟨us, []⟩ = pure ((["kinds"] : List Str).zip us) := match us, hl with | [_], _ => rfl
theorem bind_check_row (kV doc pm : Value) (an : Option Addr) (cdv ct : Value) (us : List Value) (hl : us.length = (["kinds", "thing"] : List Str).length) : bindArgs (PySem.W.fnOf "check_row" "check_row" (defArgs s_check_row) (defBody s_check_row) (defScope s_check_row) .none kV doc pm an cdv ct) ⟨us, []⟩ = pure ((["kinds", "thing"] : List Str).zip us) := match us, hl with | [_, _], _ => rfl
theorem bind_counted (kV doc pm : Value) (an : Option Addr) (cdv ct : Value) (us : List Value) (hl : us.length = (["kinds", "row", "flags", "times"] : List Str).length) : bindArgs (PySem.W.fnOf "counted" "counted" (defArgs s_counted) (defBody s_counted) (defScope s_counted) .none kV doc pm an cdv ct) ⟨us, []⟩ = pure ((["kinds", "row", "flags", "times"] : List Str).zip us) := match us, hl with | [_, _, _, _], _ => rfl
theorem bind_entered_counts (kV doc pm : Value) (an : Option Addr) (cdv ct : Value) (us : List Value) (hl : us.length = (["kinds", "row"] : List Str).length) : bindArgs (PySem.W.fnOf "entered_counts" "entered_counts" (defArgs s_entered_counts) (defBody s_entered_counts) (defScope s_entered_counts) .none kV doc pm an cdv ct) ⟨us, []⟩ = pure ((["kinds", "row"] : List Str).zip us) := match us, hl with | [_, _], _ => rfl
theorem bind_entered_in (kV doc pm : Value) (an : Option Addr) (cdv ct : Value) (us : List Value) (hl : us.length = (["kinds", "row"] : List Str).length) : bindArgs (PySem.W.fnOf "entered_in" "entered_in" (defArgs s_entered_in) (defBody s_entered_in) (defScope s_entered_in) .none kV doc pm an cdv ct) ⟨us, []⟩ = pure ((["kinds", "row"] : List Str).zip us) := match us, hl with | [_, _], _ => rfl
theorem bind_first_pairs (kV doc pm : Value) (an : Option Addr) (cdv ct : Value) (us : List Value) (hl : us.length = (["kinds"] : List Str).length) : bindArgs (PySem.W.fnOf "first_pairs" "first_pairs" (defArgs s_first_pairs) (defBody s_first_pairs) (defScope s_first_pairs) .none kV doc pm an cdv ct) ⟨us, []⟩ = pure ((["kinds"] : List Str).zip us) := match us, hl with | [_], _ => rfl
theorem bind_first_wrong_counts (kV doc pm : Value) (an : Option Addr) (cdv ct : Value) (us : List Value) (hl : us.length = (["many", "lots"] : List Str).length) : bindArgs (PySem.W.fnOf "first_wrong_counts" "first_wrong_counts" (defArgs s_first_wrong_counts) (defBody s_first_wrong_counts) (defScope s_first_wrong_counts) .none kV doc pm an cdv ct) ⟨us, []⟩ = pure ((["many", "lots"] : List Str).zip us) := match us, hl with | [_, _], _ => rfl
theorem bind_is_at_most (kV doc pm : Value) (an : Option Addr) (cdv ct : Value) (us : List Value) (hl : us.length = (["one", "other"] : List Str).length) : bindArgs (PySem.W.fnOf "is_at_most" "is_at_most" (defArgs s_is_at_most) (defBody s_is_at_most) (defScope s_is_at_most) .none kV doc pm an cdv ct) ⟨us, []⟩ = pure ((["one", "other"] : List Str).zip us) := match us, hl with | [_, _], _ => rfl
theorem bind_is_counts (kV doc pm : Value) (an : Option Addr) (cdv ct : Value) (us : List Value) (hl : us.length = (["many", "thing"] : List Str).length) : bindArgs (PySem.W.fnOf "is_counts" "is_counts" (defArgs s_is_counts) (defBody s_is_counts) (defScope s_is_counts) .none kV doc pm an cdv ct) ⟨us, []⟩ = pure ((["many", "thing"] : List Str).zip us) := match us, hl with | [_, _], _ => rfl
theorem bind_is_integer (kV doc pm : Value) (an : Option Addr) (cdv ct : Value) (us : List Value) (hl : us.length = (["thing"] : List Str).length) : bindArgs (PySem.W.fnOf "is_integer" "is_integer" (defArgs s_is_integer) (defBody s_is_integer) (defScope s_is_integer) .none kV doc pm an cdv ct) ⟨us, []⟩ = pure ((["thing"] : List Str).zip us) := match us, hl with | [_], _ => rfl
theorem bind_is_row_of (kV doc pm : Value) (an : Option Addr) (cdv ct : Value) (us : List Value) (hl : us.length = (["kinds", "thing"] : List Str).length) : bindArgs (PySem.W.fnOf "is_row_of" "is_row_of" (defArgs s_is_row_of) (defBody s_is_row_of) (defScope s_is_row_of) .none kV doc pm an cdv ct) ⟨us, []⟩ = pure ((["kinds", "thing"] : List Str).zip us) := match us, hl with | [_, _], _ => rfl
theorem bind_is_within (kV doc pm : Value) (an : Option Addr) (cdv ct : Value) (us : List Value) (hl : us.length = (["thing", "least", "most"] : List Str).length) : bindArgs (PySem.W.fnOf "is_within" "is_within" (defArgs s_is_within) (defBody s_is_within) (defScope s_is_within) .none kV doc pm an cdv ct) ⟨us, []⟩ = pure ((["thing", "least", "most"] : List Str).zip us) := match us, hl with | [_, _, _], _ => rfl
theorem bind_law (kV doc pm : Value) (an : Option Addr) (cdv ct : Value) (us : List Value) (hl : us.length = (["script"] : List Str).length) : bindArgs (PySem.W.fnOf "law" "law" (defArgs s_law) (defBody s_law) (defScope s_law) .none kV doc pm an cdv ct) ⟨us, []⟩ = pure ((["script"] : List Str).zip us) := match us, hl with | [_], _ => rfl
theorem bind_longer (kV doc pm : Value) (an : Option Addr) (cdv ct : Value) (us : List Value) (hl : us.length = (["told", "kind"] : List Str).length) : bindArgs (PySem.W.fnOf "longer" "longer" (defArgs s_longer) (defBody s_longer) (defScope s_longer) .none kV doc pm an cdv ct) ⟨us, []⟩ = pure ((["told", "kind"] : List Str).zip us) := match us, hl with | [_, _], _ => rfl
theorem bind_run (kV doc pm : Value) (an : Option Addr) (cdv ct : Value) (us : List Value) (hl : us.length = (["kinds", "state", "row"] : List Str).length) : bindArgs (PySem.W.fnOf "run" "run" (defArgs s_run) (defBody s_run) (defScope s_run) .none kV doc pm an cdv ct) ⟨us, []⟩ = pure ((["kinds", "state", "row"] : List Str).zip us) := match us, hl with | [_, _, _], _ => rfl
theorem bind_search (kV doc pm : Value) (an : Option Addr) (cdv ct : Value) (us : List Value) (hl : us.length = (["kinds"] : List Str).length) : bindArgs (PySem.W.fnOf "search" "search" (defArgs s_search) (defBody s_search) (defScope s_search) .none kV doc pm an cdv ct) ⟨us, []⟩ = pure ((["kinds"] : List Str).zip us) := match us, hl with | [_], _ => rfl
theorem bind_steady_kinds (kV doc pm : Value) (an : Option Addr) (cdv ct : Value) (us : List Value) (hl : us.length = (["kinds"] : List Str).length) : bindArgs (PySem.W.fnOf "steady_kinds" "steady_kinds" (defArgs s_steady_kinds) (defBody s_steady_kinds) (defScope s_steady_kinds) .none kV doc pm an cdv ct) ⟨us, []⟩ = pure ((["kinds"] : List Str).zip us) := match us, hl with | [_], _ => rfl
theorem bind_steady_table (kV doc pm : Value) (an : Option Addr) (cdv ct : Value) (us : List Value) (hl : us.length = (["kinds"] : List Str).length) : bindArgs (PySem.W.fnOf "steady_table" "steady_table" (defArgs s_steady_table) (defBody s_steady_table) (defScope s_steady_table) .none kV doc pm an cdv ct) ⟨us, []⟩ = pure ((["kinds"] : List Str).zip us) := match us, hl with | [_], _ => rfl
theorem bind_step (kV doc pm : Value) (an : Option Addr) (cdv ct : Value) (us : List Value) (hl : us.length = (["kinds", "counts", "kind"] : List Str).length) : bindArgs (PySem.W.fnOf "step" "step" (defArgs s_step) (defBody s_step) (defScope s_step) .none kV doc pm an cdv ct) ⟨us, []⟩ = pure ((["kinds", "counts", "kind"] : List Str).zip us) := match us, hl with | [_, _, _], _ => rfl
theorem bind_with_one (kV doc pm : Value) (an : Option Addr) (cdv ct : Value) (us : List Value) (hl : us.length = (["counts", "kind"] : List Str).length) : bindArgs (PySem.W.fnOf "with_one" "with_one" (defArgs s_with_one) (defBody s_with_one) (defScope s_with_one) .none kV doc pm an cdv ct) ⟨us, []⟩ = pure ((["counts", "kind"] : List Str).zip us) := match us, hl with | [_, _], _ => rfl
theorem all_law {C fi fa : Addr} {fdi fda : FuncData} {base : Heap} (T : Txt mg) (KC : KindsC K C) (gC : mg "Kinds" = some (.ref C)) (M : L2.Mk K C fi) (F_init : L2.Fun K "__init__" "Kinds.__init__" s_Kinds___init__ fi fdi)
    (F_law : Df K mg "law" s_law ["script"] fa fda) {f_law_capped : Addr} {fd_law_capped : FuncData} (F_law_capped : Df K mg "_law_capped" s_law_capped ["lots", "counts"] f_law_capped fd_law_capped)
    {f_law_draw : Addr} {fd_law_draw : FuncData} (F_law_draw : Df K mg "_law_draw" s_law_draw ["hand", "many"] f_law_draw fd_law_draw)
    {f_law_hand : Addr} {fd_law_hand : FuncData} (F_law_hand : Df K mg "_law_hand" s_law_hand ["script"] f_law_hand fd_law_hand)
    {f_law_is_out : Addr} {fd_law_is_out : FuncData} (F_law_is_out : Df K mg "_law_is_out" s_law_is_out ["lots", "stand", "kind"] f_law_is_out fd_law_is_out)
    {f_law_is_right : Addr} {fd_law_is_right : FuncData} (F_law_is_right : Df K mg "_law_is_right" s_law_is_right ["hand", "many", "lots"] f_law_is_right fd_law_is_right)
    {f_law_kinds : Addr} {fd_law_kinds : FuncData} (F_law_kinds : Df K mg "_law_kinds" s_law_kinds ["hand", "many"] f_law_kinds fd_law_kinds)
    {f_law_on : Addr} {fd_law_on : FuncData} (F_law_on : Df K mg "_law_on" s_law_on ["caps_v", "lots", "stand", "kind"] f_law_on fd_law_on)
    {f_law_pairs : Addr} {fd_law_pairs : FuncData} (F_law_pairs : Df K mg "_law_pairs" s_law_pairs ["many", "lots"] f_law_pairs fd_law_pairs)
    {f_law_row : Addr} {fd_law_row : FuncData} (F_law_row : Df K mg "_law_row" s_law_row ["hand", "many", "long"] f_law_row fd_law_row)
    {f_law_some : Addr} {fd_law_some : FuncData} (F_law_some : Df K mg "_law_some" s_law_some ["hand", "things"] f_law_some fd_law_some)
    {f_law_some_kinds : Addr} {fd_law_some_kinds : FuncData} (F_law_some_kinds : Df K mg "_law_some_kinds" s_law_some_kinds ["hand"] f_law_some_kinds fd_law_some_kinds)
    {f_law_stands : Addr} {fd_law_stands : FuncData} (F_law_stands : Df K mg "_law_stands" s_law_stands ["many", "lots"] f_law_stands fd_law_stands)
    {f_law_summing : Addr} {fd_law_summing : FuncData} (F_law_summing : Df K mg "_law_summing" s_law_summing ["many", "whole"] f_law_summing fd_law_summing)
    {f_law_with_odd : Addr} {fd_law_with_odd : FuncData} (F_law_with_odd : Df K mg "_law_with_odd" s_law_with_odd ["hand", "many", "some"] f_law_with_odd fd_law_with_odd)
    {f_all_states : Addr} {fd_all_states : FuncData} (F_all_states : Df K mg "all_states" s_all_states ["kinds"] f_all_states fd_all_states)
    {f_begin : Addr} {fd_begin : FuncData} (F_begin : Df K mg "begin" s_begin ["kinds"] f_begin fd_begin)
    {f_called_back : Addr} {fd_called_back : FuncData} (F_called_back : Df K mg "called_back" s_called_back ["kinds"] f_called_back fd_called_back)
    {f_capped : Addr} {fd_capped : FuncData} (F_capped : Df K mg "capped" s_capped ["kinds", "counts"] f_capped fd_capped)
    {f_caps : Addr} {fd_caps : FuncData} (F_caps : Df K mg "caps" s_caps ["kinds"] f_caps fd_caps)
    {f_check_row : Addr} {fd_check_row : FuncData} (F_check_row : Df K mg "check_row" s_check_row ["kinds", "thing"] f_check_row fd_check_row)
    {f_counted : Addr} {fd_counted : FuncData} (F_counted : Df K mg "counted" s_counted ["kinds", "row", "flags", "times"] f_counted fd_counted)
    {f_entered_counts : Addr} {fd_entered_counts : FuncData} (F_entered_counts : Df K mg "entered_counts" s_entered_counts ["kinds", "row"] f_entered_counts fd_entered_counts)
    {f_entered_in : Addr} {fd_entered_in : FuncData} (F_entered_in : Df K mg "entered_in" s_entered_in ["kinds", "row"] f_entered_in fd_entered_in)
    {f_first_pairs : Addr} {fd_first_pairs : FuncData} (F_first_pairs : Df K mg "first_pairs" s_first_pairs ["kinds"] f_first_pairs fd_first_pairs)
    {f_first_wrong_counts : Addr} {fd_first_wrong_counts : FuncData} (F_first_wrong_counts : Df K mg "first_wrong_counts" s_first_wrong_counts ["many", "lots"] f_first_wrong_counts fd_first_wrong_counts)
    {f_is_at_most : Addr} {fd_is_at_most : FuncData} (F_is_at_most : Df K mg "is_at_most" s_is_at_most ["one", "other"] f_is_at_most fd_is_at_most)
    {f_is_counts : Addr} {fd_is_counts : FuncData} (F_is_counts : Df K mg "is_counts" s_is_counts ["many", "thing"] f_is_counts fd_is_counts)
    {f_is_integer : Addr} {fd_is_integer : FuncData} (F_is_integer : Df K mg "is_integer" s_is_integer ["thing"] f_is_integer fd_is_integer)
    {f_is_row_of : Addr} {fd_is_row_of : FuncData} (F_is_row_of : Df K mg "is_row_of" s_is_row_of ["kinds", "thing"] f_is_row_of fd_is_row_of)
    {f_is_within : Addr} {fd_is_within : FuncData} (F_is_within : Df K mg "is_within" s_is_within ["thing", "least", "most"] f_is_within fd_is_within)
    {f_longer : Addr} {fd_longer : FuncData} (F_longer : Df K mg "longer" s_longer ["told", "kind"] f_longer fd_longer)
    {f_run : Addr} {fd_run : FuncData} (F_run : Df K mg "run" s_run ["kinds", "state", "row"] f_run fd_run)
    {f_search : Addr} {fd_search : FuncData} (F_search : Df K mg "search" s_search ["kinds"] f_search fd_search)
    {f_steady_kinds : Addr} {fd_steady_kinds : FuncData} (F_steady_kinds : Df K mg "steady_kinds" s_steady_kinds ["kinds"] f_steady_kinds fd_steady_kinds)
    {f_steady_table : Addr} {fd_steady_table : FuncData} (F_steady_table : Df K mg "steady_table" s_steady_table ["kinds"] f_steady_table fd_steady_table)
    {f_step : Addr} {fd_step : FuncData} (F_step : Df K mg "step" s_step ["kinds", "counts", "kind"] f_step fd_step)
    {f_with_one : Addr} {fd_with_one : FuncData} (F_with_one : Df K mg "with_one" s_with_one ["counts", "kind"] f_with_one fd_with_one)
    : FnOk P w K mg base L2.CX0 9 fa fda ["script"] (sp_law0 K) := by
  have bi : L2.Binds K fdi ["self", "many", "lots"] [] := F_init.binds fun _ _ _ _ _ _ us hl => match us, hl with | [_, _, _], _ => rfl
  have c_is_integer := mk_is_integer (P := P) (w := w) (base := base) F_is_integer T KC
  have c_is_within := mk_is_within (P := P) (w := w) (base := base) F_is_within T KC c_is_integer
  have c_is_at_most := mk_is_at_most (P := P) (w := w) (base := base) F_is_at_most T KC
  have c_begin := mk_begin (P := P) (w := w) (base := base) F_begin T KC
  have c_caps := mk_caps (P := P) (w := w) (base := base) F_caps T KC
  have c_with_one := mk_with_one (P := P) (w := w) (base := base) F_with_one T KC
  have c_capped := mk_capped (P := P) (w := w) (base := base) F_capped T KC c_caps
  have c_step := mk_step (P := P) (w := w) (base := base) F_step T KC c_is_at_most c_with_one c_capped
  have c_run := mk_run (P := P) (w := w) (base := base) F_run T KC c_step
  have c_entered_in := mk_entered_in (P := P) (w := w) (base := base) F_entered_in T KC c_begin c_run
  have c_counted := mk_counted (P := P) (w := w) (base := base) F_counted T KC
  have c_is_row_of := mk_is_row_of (P := P) (w := w) (base := base) F_is_row_of T KC c_is_within
  have c_check_row := mk_check_row (P := P) (w := w) (base := base) F_check_row T KC c_is_row_of
  have c_entered_counts := mk_entered_counts (P := P) (w := w) (base := base) F_entered_counts T KC c_check_row c_entered_in c_counted
  have c_is_counts := mk_is_counts (P := P) (w := w) (base := base) F_is_counts T KC c_is_within
  have c_first_wrong_counts := mk_first_wrong_counts (P := P) (w := w) (base := base) F_first_wrong_counts T c_is_counts c_is_at_most
  have c_Kinds : CalM P w K mg base 5 "Kinds" C (sp_kinds C) := ⟨fi, fdi, _, M, mk_kinds (P := P) (w := w) (base := base) F_init T KC c_is_within c_first_wrong_counts, gC, bi⟩
  have c_law_draw := mk_law_draw (P := P) (w := w) (base := base) F_law_draw T
  have c_law_hand := mk_law_hand (P := P) (w := w) (base := base) F_law_hand T
  have c_law_some := mk_law_some (P := P) (w := w) (base := base) F_law_some T c_law_draw
  have c_law_is_out := mk_law_is_out (P := P) (w := w) (base := base) F_law_is_out T
  have c_law_summing := mk_law_summing (P := P) (w := w) (base := base) F_law_summing T
  have c_law_row := mk_law_row (P := P) (w := w) (base := base) F_law_row T c_law_draw c_law_some
  have c_law_kinds := mk_law_kinds (P := P) (w := w) (base := base) F_law_kinds T c_law_draw c_law_some
  have c_law_with_odd := mk_law_with_odd (P := P) (w := w) (base := base) F_law_with_odd T c_law_draw
  have c_law_some_kinds := mk_law_some_kinds (P := P) (w := w) (base := base) F_law_some_kinds T c_law_draw c_law_kinds c_law_with_odd c_law_summing
  have c_all_states := mk_all_states (P := P) (w := w) (base := base) F_all_states T KC c_begin c_step
  have c_law_on := mk_law_on (P := P) (w := w) (base := base) F_law_on T
  have c_law_stands := mk_law_stands (P := P) (w := w) (base := base) F_law_stands T c_law_on
  have c_longer := mk_longer (P := P) (w := w) (base := base) F_longer T
  have c_first_pairs := mk_first_pairs (P := P) (w := w) (base := base) F_first_pairs T KC c_all_states c_step
  have c_search := mk_search (P := P) (w := w) (base := base) F_search T KC c_first_pairs c_longer c_step
  have c_steady_kinds := mk_steady_kinds (P := P) (w := w) (base := base) F_steady_kinds T c_search
  have c_called_back := mk_called_back (P := P) (w := w) (base := base) F_called_back T c_search
  have c_steady_table := mk_steady_table (P := P) (w := w) (base := base) F_steady_table T c_search
  have c_law_pairs := mk_law_pairs (P := P) (w := w) (base := base) F_law_pairs T c_law_stands c_law_is_out c_law_on
  have c_law_capped := mk_law_capped (P := P) (w := w) (base := base) F_law_capped T
  have c_law_is_right := mk_law_is_right (P := P) (w := w) (base := base) F_law_is_right T KC c_Kinds c_law_draw c_law_row c_law_pairs c_law_capped c_entered_counts c_steady_kinds c_called_back c_steady_table
  exact mk_law (P := P) (w := w) (base := base) F_law T KC c_Kinds c_law_hand c_law_some_kinds c_law_is_right c_law_summing c_steady_table
theorem law_start {a : Addr} {H : Hp} {ns : List Int} {E : XK} (hS : SqL K H a (ns.map V.int)) : sp_law0 K [.ref a] H (fun v _ => v = .bl true) E := ⟨a, ns, rfl, hS, fun _ => rfl⟩
abbrev Has {K : PySem.W.Frag} {h : Heap} (_ : K.In h) (mg : Str → Option Value) (x : Str) (st : Stmt) (ps : List Str) : Prop := ∃ f fd, Df K mg x st ps f fd
abbrev HasL {K : PySem.W.Frag} {h : Heap} (_ : K.In h) (mg : Str → Option Value) (fa : Addr) : Prop := ∃ kV doc pm an cdv ct, Df K mg "law" s_law ["script"] fa (PySem.W.fnOf "law" "law" (defArgs s_law) (defBody s_law) (defScope s_law) .none kV doc pm an cdv ct)
theorem mg_int {h : Heap} {x : Str} {i : Int} {t : Nat} (X : K.In h) (G : h.Ns mainGlobals mg) (e : PySem.W.nsIn K mainGlobals x = some (some (.int i t))) : ∃ t, mg x = some (.int i t) := ⟨t, PySem.W.mg_of X G e⟩
abbrev HasK {K : PySem.W.Frag} {h : Heap} (_ : K.In h) (mg : Str → Option Value) : Prop := ∃ C fi fdi, mg "Kinds" = some (.ref C) ∧ KindsC K C ∧ L2.Mk K C fi ∧ L2.Fun K "__init__" "Kinds.__init__" s_Kinds___init__ fi fdi
theorem hasK {h : Heap} {C fi : Addr} {oc : Value} {od an : Option Addr} {osl : Array (Option Value)} {kV doc pm cdv ct : Value} (X : K.In h) (G : h.Ns mainGlobals mg) (aC : PySem.W.nsIn K mainGlobals "Kinds" = some (some (.ref C)))
    (a1 : PySem.W.findIn K (.ref C) "__init__" = some (some (.ref fi))) (i1 : PySem.W.isFn K (.ref fi) = true) (l1 : K.lookup fi = some ⟨oc, od, .func (PySem.W.fnOf "__init__" "Kinds.__init__" (defArgs s_Kinds___init__) (defBody s_Kinds___init__) (defScope s_Kinds___init__) .none kV doc pm an cdv ct), osl⟩) (c1 : PySem.W.codeIn K cdv "Kinds.__init__" = true) (k1 : PySem.W.keepIn K (.ref fi) = true)
    (pg : PySem.W.plainGet K C Str.empty = true) (hd : PySem.W.hasDictIn K C = true) (po : PySem.W.plainOver K C = true) (sa : PySem.W.findIn K (.ref C) "__setattr__" = some (some (.builtin "object.__setattr__"))) (mk : PySem.W.makesIn K C = true) (kc : PySem.W.keepIn K (.ref C) = true)
    (n1 : PySem.W.findIn K (.ref C) "many" = some none) (n2 : PySem.W.findIn K (.ref C) "lots" = some none) : HasK X mg :=
  ⟨C, fi, _, PySem.W.mg_of X G aC, ⟨⟨pg, hd, po, sa⟩, n1, n2⟩, ⟨mk, a1, i1, kc⟩, L2.fun_mk l1 c1 k1⟩
end
end KK

open PySem PySem.W PyProof.Rows
set_option maxRecDepth 100000 in
set_option maxHeartbeats 0 in
theorem PySem.Challenge.cw_clearhall_k45_whole_tables_of_steady_kin_holds : PySem.Challenge.rw_clearhall_k45_whole_tables_of_steady_kin.Holds := by
  w_on; o_law; k_head; (case hw => w_witness2)
  k_fill
  refine L2.walk_ofK (CX := L2.CX0) (x := "script") (sp := KK.sp_law0) (l := PySem.Challenge.rw_clearhall_k45_whole_tables_of_steady_kin) (k := 9) rfl (by decide) rfl ⟨rfl, by decide, by decide⟩ (fun w h Y => PySem.W.kIn_of Y) ?F ?S (fun _ _ _ _ h => h)
  case S => exact fun _ _ _ _ _ _ hS => KK.law_start hS
  case F =>
    intro w mg fa h KX G hmg
    have z_all : mg "all" = none := by refine' PySem.W.mg_none_of KX G ?e; (case e => k_is)
    have z_any : mg "any" = none := by refine' PySem.W.mg_none_of KX G ?e; (case e => k_is)
    have z_zip : mg "zip" = none := by refine' PySem.W.mg_none_of KX G ?e; (case e => k_is)
    have z_tuple : mg "tuple" = none := by refine' PySem.W.mg_none_of KX G ?e; (case e => k_is)
    have z_list : mg "list" = none := by refine' PySem.W.mg_none_of KX G ?e; (case e => k_is)
    have z_min : mg "min" = none := by refine' PySem.W.mg_none_of KX G ?e; (case e => k_is)
    have z_max : mg "max" = none := by refine' PySem.W.mg_none_of KX G ?e; (case e => k_is)
    have z_range : mg "range" = none := by refine' PySem.W.mg_none_of KX G ?e; (case e => k_is)
    have z_len : mg "len" = none := by refine' PySem.W.mg_none_of KX G ?e; (case e => k_is)
    have z_sum : mg "sum" = none := by refine' PySem.W.mg_none_of KX G ?e; (case e => k_is)
    have z_int : mg "int" = none := by refine' PySem.W.mg_none_of KX G ?e; (case e => k_is)
    have z_abs : mg "abs" = none := by refine' PySem.W.mg_none_of KX G ?e; (case e => k_is)
    have z_bool : mg "bool" = none := by refine' PySem.W.mg_none_of KX G ?e; (case e => k_is)
    have z_isinstance : mg "isinstance" = none := by refine' PySem.W.mg_none_of KX G ?e; (case e => k_is)
    have z_enumerate : mg "enumerate" = none := by refine' PySem.W.mg_none_of KX G ?e; (case e => k_is)
    have z_sorted : mg "sorted" = none := by refine' PySem.W.mg_none_of KX G ?e; (case e => k_is)
    have z_set : mg "set" = none := by refine' PySem.W.mg_none_of KX G ?e; (case e => k_is)
    have z_MOST_KINDS : ∃ t, mg "MOST_KINDS" = some (.int 3 t) := by refine' KK.mg_int KX G ?e; (case e => k_is)
    have z_MOST_COUNT : ∃ t, mg "MOST_COUNT" = some (.int 4 t) := by refine' KK.mg_int KX G ?e; (case e => k_is)
    have z_MOST_LOTS : ∃ t, mg "MOST_LOTS" = some (.int 12 t) := by refine' KK.mg_int KX G ?e; (case e => k_is)
    have z_MOST_ROW : ∃ t, mg "MOST_ROW" = some (.int 200 t) := by refine' KK.mg_int KX G ?e; (case e => k_is)
    have T : KK.Txt mg := { b_all := z_all, b_any := z_any, b_zip := z_zip, b_tuple := z_tuple, b_list := z_list, b_min := z_min, b_max := z_max, b_range := z_range, b_len := z_len, b_sum := z_sum, b_int := z_int, b_abs := z_abs, b_bool := z_bool, b_isinstance := z_isinstance, b_enumerate := z_enumerate, b_sorted := z_sorted, b_set := z_set, c_MOST_KINDS := z_MOST_KINDS, c_MOST_COUNT := z_MOST_COUNT, c_MOST_LOTS := z_MOST_LOTS, c_MOST_ROW := z_MOST_ROW }
    obtain ⟨f_law_capped, fd_law_capped, F_law_capped⟩ : KK.Has KX mg "_law_capped" KK.s_law_capped ["lots", "counts"] := by refine' KK.df_ex KX G KK.bind_law_capped ?a ?l ?c ?k; (case a => k_is); (case l => k_is); (case c => k_is); (case k => k_is)
    obtain ⟨f_law_draw, fd_law_draw, F_law_draw⟩ : KK.Has KX mg "_law_draw" KK.s_law_draw ["hand", "many"] := by refine' KK.df_ex KX G KK.bind_law_draw ?a ?l ?c ?k; (case a => k_is); (case l => k_is); (case c => k_is); (case k => k_is)
    obtain ⟨f_law_hand, fd_law_hand, F_law_hand⟩ : KK.Has KX mg "_law_hand" KK.s_law_hand ["script"] := by refine' KK.df_ex KX G KK.bind_law_hand ?a ?l ?c ?k; (case a => k_is); (case l => k_is); (case c => k_is); (case k => k_is)
    obtain ⟨f_law_is_out, fd_law_is_out, F_law_is_out⟩ : KK.Has KX mg "_law_is_out" KK.s_law_is_out ["lots", "stand", "kind"] := by refine' KK.df_ex KX G KK.bind_law_is_out ?a ?l ?c ?k; (case a => k_is); (case l => k_is); (case c => k_is); (case k => k_is)
    obtain ⟨f_law_is_right, fd_law_is_right, F_law_is_right⟩ : KK.Has KX mg "_law_is_right" KK.s_law_is_right ["hand", "many", "lots"] := by refine' KK.df_ex KX G KK.bind_law_is_right ?a ?l ?c ?k; (case a => k_is); (case l => k_is); (case c => k_is); (case k => k_is)
    obtain ⟨f_law_kinds, fd_law_kinds, F_law_kinds⟩ : KK.Has KX mg "_law_kinds" KK.s_law_kinds ["hand", "many"] := by refine' KK.df_ex KX G KK.bind_law_kinds ?a ?l ?c ?k; (case a => k_is); (case l => k_is); (case c => k_is); (case k => k_is)
    obtain ⟨f_law_on, fd_law_on, F_law_on⟩ : KK.Has KX mg "_law_on" KK.s_law_on ["caps_v", "lots", "stand", "kind"] := by refine' KK.df_ex KX G KK.bind_law_on ?a ?l ?c ?k; (case a => k_is); (case l => k_is); (case c => k_is); (case k => k_is)
    obtain ⟨f_law_pairs, fd_law_pairs, F_law_pairs⟩ : KK.Has KX mg "_law_pairs" KK.s_law_pairs ["many", "lots"] := by refine' KK.df_ex KX G KK.bind_law_pairs ?a ?l ?c ?k; (case a => k_is); (case l => k_is); (case c => k_is); (case k => k_is)
    obtain ⟨f_law_row, fd_law_row, F_law_row⟩ : KK.Has KX mg "_law_row" KK.s_law_row ["hand", "many", "long"] := by refine' KK.df_ex KX G KK.bind_law_row ?a ?l ?c ?k; (case a => k_is); (case l => k_is); (case c => k_is); (case k => k_is)
    obtain ⟨f_law_some, fd_law_some, F_law_some⟩ : KK.Has KX mg "_law_some" KK.s_law_some ["hand", "things"] := by refine' KK.df_ex KX G KK.bind_law_some ?a ?l ?c ?k; (case a => k_is); (case l => k_is); (case c => k_is); (case k => k_is)
    obtain ⟨f_law_some_kinds, fd_law_some_kinds, F_law_some_kinds⟩ : KK.Has KX mg "_law_some_kinds" KK.s_law_some_kinds ["hand"] := by refine' KK.df_ex KX G KK.bind_law_some_kinds ?a ?l ?c ?k; (case a => k_is); (case l => k_is); (case c => k_is); (case k => k_is)
    obtain ⟨f_law_stands, fd_law_stands, F_law_stands⟩ : KK.Has KX mg "_law_stands" KK.s_law_stands ["many", "lots"] := by refine' KK.df_ex KX G KK.bind_law_stands ?a ?l ?c ?k; (case a => k_is); (case l => k_is); (case c => k_is); (case k => k_is)
    obtain ⟨f_law_summing, fd_law_summing, F_law_summing⟩ : KK.Has KX mg "_law_summing" KK.s_law_summing ["many", "whole"] := by refine' KK.df_ex KX G KK.bind_law_summing ?a ?l ?c ?k; (case a => k_is); (case l => k_is); (case c => k_is); (case k => k_is)
    obtain ⟨f_law_with_odd, fd_law_with_odd, F_law_with_odd⟩ : KK.Has KX mg "_law_with_odd" KK.s_law_with_odd ["hand", "many", "some"] := by refine' KK.df_ex KX G KK.bind_law_with_odd ?a ?l ?c ?k; (case a => k_is); (case l => k_is); (case c => k_is); (case k => k_is)
    obtain ⟨f_all_states, fd_all_states, F_all_states⟩ : KK.Has KX mg "all_states" KK.s_all_states ["kinds"] := by refine' KK.df_ex KX G KK.bind_all_states ?a ?l ?c ?k; (case a => k_is); (case l => k_is); (case c => k_is); (case k => k_is)
    obtain ⟨f_begin, fd_begin, F_begin⟩ : KK.Has KX mg "begin" KK.s_begin ["kinds"] := by refine' KK.df_ex KX G KK.bind_begin ?a ?l ?c ?k; (case a => k_is); (case l => k_is); (case c => k_is); (case k => k_is)
    obtain ⟨f_called_back, fd_called_back, F_called_back⟩ : KK.Has KX mg "called_back" KK.s_called_back ["kinds"] := by refine' KK.df_ex KX G KK.bind_called_back ?a ?l ?c ?k; (case a => k_is); (case l => k_is); (case c => k_is); (case k => k_is)
    obtain ⟨f_capped, fd_capped, F_capped⟩ : KK.Has KX mg "capped" KK.s_capped ["kinds", "counts"] := by refine' KK.df_ex KX G KK.bind_capped ?a ?l ?c ?k; (case a => k_is); (case l => k_is); (case c => k_is); (case k => k_is)
    obtain ⟨f_caps, fd_caps, F_caps⟩ : KK.Has KX mg "caps" KK.s_caps ["kinds"] := by refine' KK.df_ex KX G KK.bind_caps ?a ?l ?c ?k; (case a => k_is); (case l => k_is); (case c => k_is); (case k => k_is)
    obtain ⟨f_check_row, fd_check_row, F_check_row⟩ : KK.Has KX mg "check_row" KK.s_check_row ["kinds", "thing"] := by refine' KK.df_ex KX G KK.bind_check_row ?a ?l ?c ?k; (case a => k_is); (case l => k_is); (case c => k_is); (case k => k_is)
    obtain ⟨f_counted, fd_counted, F_counted⟩ : KK.Has KX mg "counted" KK.s_counted ["kinds", "row", "flags", "times"] := by refine' KK.df_ex KX G KK.bind_counted ?a ?l ?c ?k; (case a => k_is); (case l => k_is); (case c => k_is); (case k => k_is)
    obtain ⟨f_entered_counts, fd_entered_counts, F_entered_counts⟩ : KK.Has KX mg "entered_counts" KK.s_entered_counts ["kinds", "row"] := by refine' KK.df_ex KX G KK.bind_entered_counts ?a ?l ?c ?k; (case a => k_is); (case l => k_is); (case c => k_is); (case k => k_is)
    obtain ⟨f_entered_in, fd_entered_in, F_entered_in⟩ : KK.Has KX mg "entered_in" KK.s_entered_in ["kinds", "row"] := by refine' KK.df_ex KX G KK.bind_entered_in ?a ?l ?c ?k; (case a => k_is); (case l => k_is); (case c => k_is); (case k => k_is)
    obtain ⟨f_first_pairs, fd_first_pairs, F_first_pairs⟩ : KK.Has KX mg "first_pairs" KK.s_first_pairs ["kinds"] := by refine' KK.df_ex KX G KK.bind_first_pairs ?a ?l ?c ?k; (case a => k_is); (case l => k_is); (case c => k_is); (case k => k_is)
    obtain ⟨f_first_wrong_counts, fd_first_wrong_counts, F_first_wrong_counts⟩ : KK.Has KX mg "first_wrong_counts" KK.s_first_wrong_counts ["many", "lots"] := by refine' KK.df_ex KX G KK.bind_first_wrong_counts ?a ?l ?c ?k; (case a => k_is); (case l => k_is); (case c => k_is); (case k => k_is)
    obtain ⟨f_is_at_most, fd_is_at_most, F_is_at_most⟩ : KK.Has KX mg "is_at_most" KK.s_is_at_most ["one", "other"] := by refine' KK.df_ex KX G KK.bind_is_at_most ?a ?l ?c ?k; (case a => k_is); (case l => k_is); (case c => k_is); (case k => k_is)
    obtain ⟨f_is_counts, fd_is_counts, F_is_counts⟩ : KK.Has KX mg "is_counts" KK.s_is_counts ["many", "thing"] := by refine' KK.df_ex KX G KK.bind_is_counts ?a ?l ?c ?k; (case a => k_is); (case l => k_is); (case c => k_is); (case k => k_is)
    obtain ⟨f_is_integer, fd_is_integer, F_is_integer⟩ : KK.Has KX mg "is_integer" KK.s_is_integer ["thing"] := by refine' KK.df_ex KX G KK.bind_is_integer ?a ?l ?c ?k; (case a => k_is); (case l => k_is); (case c => k_is); (case k => k_is)
    obtain ⟨f_is_row_of, fd_is_row_of, F_is_row_of⟩ : KK.Has KX mg "is_row_of" KK.s_is_row_of ["kinds", "thing"] := by refine' KK.df_ex KX G KK.bind_is_row_of ?a ?l ?c ?k; (case a => k_is); (case l => k_is); (case c => k_is); (case k => k_is)
    obtain ⟨f_is_within, fd_is_within, F_is_within⟩ : KK.Has KX mg "is_within" KK.s_is_within ["thing", "least", "most"] := by refine' KK.df_ex KX G KK.bind_is_within ?a ?l ?c ?k; (case a => k_is); (case l => k_is); (case c => k_is); (case k => k_is)
    have hmg2 : mg "law" = some (.ref fa) := hmg
    obtain ⟨kV9, doc9, pm9, an9, cd9, ct9, F_law⟩ : KK.HasL KX mg fa := by refine' KK.df_law KX G hmg2 KK.bind_law ?a ?l ?c ?k; (case a => k_is); (case l => k_is); (case c => k_is); (case k => k_is)
    obtain ⟨f_longer, fd_longer, F_longer⟩ : KK.Has KX mg "longer" KK.s_longer ["told", "kind"] := by refine' KK.df_ex KX G KK.bind_longer ?a ?l ?c ?k; (case a => k_is); (case l => k_is); (case c => k_is); (case k => k_is)
    obtain ⟨f_run, fd_run, F_run⟩ : KK.Has KX mg "run" KK.s_run ["kinds", "state", "row"] := by refine' KK.df_ex KX G KK.bind_run ?a ?l ?c ?k; (case a => k_is); (case l => k_is); (case c => k_is); (case k => k_is)
    obtain ⟨f_search, fd_search, F_search⟩ : KK.Has KX mg "search" KK.s_search ["kinds"] := by refine' KK.df_ex KX G KK.bind_search ?a ?l ?c ?k; (case a => k_is); (case l => k_is); (case c => k_is); (case k => k_is)
    obtain ⟨f_steady_kinds, fd_steady_kinds, F_steady_kinds⟩ : KK.Has KX mg "steady_kinds" KK.s_steady_kinds ["kinds"] := by refine' KK.df_ex KX G KK.bind_steady_kinds ?a ?l ?c ?k; (case a => k_is); (case l => k_is); (case c => k_is); (case k => k_is)
    obtain ⟨f_steady_table, fd_steady_table, F_steady_table⟩ : KK.Has KX mg "steady_table" KK.s_steady_table ["kinds"] := by refine' KK.df_ex KX G KK.bind_steady_table ?a ?l ?c ?k; (case a => k_is); (case l => k_is); (case c => k_is); (case k => k_is)
    obtain ⟨f_step, fd_step, F_step⟩ : KK.Has KX mg "step" KK.s_step ["kinds", "counts", "kind"] := by refine' KK.df_ex KX G KK.bind_step ?a ?l ?c ?k; (case a => k_is); (case l => k_is); (case c => k_is); (case k => k_is)
    obtain ⟨f_with_one, fd_with_one, F_with_one⟩ : KK.Has KX mg "with_one" KK.s_with_one ["counts", "kind"] := by refine' KK.df_ex KX G KK.bind_with_one ?a ?l ?c ?k; (case a => k_is); (case l => k_is); (case c => k_is); (case k => k_is)
    obtain ⟨C, fi, fdi, gC, KC, M, F_init⟩ : KK.HasK KX mg := by refine' KK.hasK KX G ?aC ?a1 ?i1 ?l1 ?c1 ?k1 ?pg ?hd ?po ?sa ?mk ?kc ?n1 ?n2; (case aC => k_is); (case a1 => k_is); (case i1 => k_is); (case l1 => k_is); (case c1 => k_is); (case k1 => k_is); (case pg => k_is); (case hd => k_is); (case po => k_is); (case sa => k_is); (case mk => k_is); (case kc => k_is); (case n1 => k_is); (case n2 => k_is)
    exact ⟨PySem.W.fnOf "law" "law" (L2.defArgs KK.s_law) (L2.defBody KK.s_law) (L2.defScope KK.s_law) .none kV9 doc9 pm9 an9 cd9 ct9, fun s v => .of_eq (KK.bind_law _ _ _ _ _ _ [v] rfl), fun base _ _ => KK.all_law T KC gC M F_init F_law F_law_capped F_law_draw F_law_hand F_law_is_out F_law_is_right F_law_kinds F_law_on F_law_pairs F_law_row F_law_some F_law_some_kinds F_law_stands F_law_summing F_law_with_odd F_all_states F_begin F_called_back F_capped F_caps F_check_row F_counted F_entered_counts F_entered_in F_first_pairs F_first_wrong_counts F_is_at_most F_is_counts F_is_integer F_is_row_of F_is_within F_longer F_run F_search F_steady_kinds F_steady_table F_step F_with_one⟩
