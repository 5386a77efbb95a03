import PyProof.Rows.All
import Wide.All
import OpenK.AllK
import Wide.FinOn
import KE.KStateDown
import HandS.Base
import HandS.Call
import HandS.Ends
import HandS.More
import HandS.Words
import HandS.WordsExc
import HandS.Defaults
import HandS.Head0
import HandS.Head1
import HandS.Head2
import HandS.HeadEnd
import HandS.HeadHook1
import HandS.HeadHook2
import HandS.ForMost
import HandS.Deep
import HandS.Zip
import HandS.ForExc
import HandS.IsInst
import HandS.Flow
import HandS.Style
import HandS.TupAny
import HandS.SortInts
import HandS.Text
import HandS.Conv
import HandS.Exc
import HandS.Dict
import KE.KDictKeyed
import HandS.DictComp
import HandS.Iter
import KE.GoesEnum
import KE.SortData
import HandS.TupLen
import KE.KDictCopyH
import HandS.List
import PySem.Challenge.RW_cornerplane_k18_sayings_and_rings
set_option Elab.async false
set_option linter.all false
set_option maxRecDepth 100000
set_option maxHeartbeats 0
set_option autoImplicit false
/-! The data layer: typed values by what they are, slots, states. -/
namespace Cp
open PySem L2

/-! ### results of a computation -/
inductive R (ε α : Type) where
  | ok (a : α) | exn (e : ε) | bad
def R.bind {ε α β : Type} (m : R ε α) (k : α → R ε β) : R ε β := match m with
  | .ok a => k a
  | .exn e => .exn e
  | .bad => .bad
@[reducible] def R.map {ε α β : Type} (f : α → β) (m : R ε α) : R ε β := m.bind fun a => .ok (f a)
@[simp] theorem R.bind_ok {ε α β : Type} (a : α) (k : α → R ε β) : (R.ok a).bind k = k a := rfl
@[simp] theorem R.bind_exn {ε α β : Type} (e : ε) (k : α → R ε β) : (R.exn e).bind k = .exn e := rfl
@[simp] theorem R.bind_bad {ε α β : Type} (k : α → R ε β) : (R.bad : R ε α).bind k = .bad := rfl
theorem bo {ε α β : Type} (a : α) (k : α → R ε β) : (R.ok a).bind k = k a := Eq.trans (R.bind_ok a k) (Eq.refl (k a))
theorem R.bind_assoc {ε α β γ : Type} (m : R ε α) (k : α → R ε β) (l : β → R ε γ) : (m.bind k).bind l = m.bind fun a => (k a).bind l := by
  cases m <;> rfl
theorem R.bind_pure {ε α : Type} (m : R ε α) : m.bind .ok = m := by cases m <;> rfl

theorem prd_app {α β : Type} {F : α → β → Prop} : ∀ {xs ys : List α} {us ws : List β}, Paired F xs us → Paired F ys ws → Paired F (xs ++ ys) (us ++ ws)
  | _, _, _, _, .nil, s => s
  | _, _, _, _, .cons r t, s => .cons r (prd_app t s)
theorem prd_take {α β : Type} {F : α → β → Prop} : ∀ {xs : List α} {us : List β} (n : Nat), Paired F xs us → Paired F (xs.take n) (us.take n)
  | _, _, 0, _ => .nil
  | _, _, _ + 1, .nil => .nil
  | _, _, n + 1, .cons r t => .cons r (prd_take n t)
theorem prd_drop {α β : Type} {F : α → β → Prop} : ∀ {xs : List α} {us : List β} (n : Nat), Paired F xs us → Paired F (xs.drop n) (us.drop n)
  | _, _, 0, r => r
  | _, _, n + 1, .nil => .nil
  | _, _, n + 1, .cons _ t => prd_drop n t
theorem prd_rev {α β : Type} {F : α → β → Prop} {xs : List α} {us : List β} (h : Paired F xs us) : Paired F xs.reverse us.reverse := by
  induction h with
  | nil => exact .nil
  | cons r t ih => rw [List.reverse_cons, List.reverse_cons]; exact prd_app ih (.cons r .nil)
theorem prd_set {α β : Type} {F : α → β → Prop} {x : α} {u : β} (r : F x u) : ∀ {xs : List α} {us : List β} (i : Nat), Paired F xs us → Paired F (xs.set i x) (us.set i u)
  | _, _, _, .nil => .nil
  | _, _, 0, .cons _ t => .cons r t
  | _, _, i + 1, .cons q t => .cons q (prd_set r i t)
theorem prd_erase {α β : Type} {F : α → β → Prop} : ∀ {xs : List α} {us : List β} (i : Nat), Paired F xs us → Paired F (xs.eraseIdx i) (us.eraseIdx i)
  | _, _, _, .nil => .nil
  | _, _, 0, .cons _ t => t
  | _, _, i + 1, .cons r t => .cons r (prd_erase i t)
theorem prd_rep {α β : Type} {F : α → β → Prop} {xs : List α} {us : List β} (h : Paired F xs us) : ∀ k : Nat, Paired F (List.replicate k xs).flatten (List.replicate k us).flatten
  | 0 => .nil
  | k + 1 => by
    rw [List.replicate_succ, List.replicate_succ, List.flatten_cons, List.flatten_cons]
    exact prd_app h (prd_rep h k)

/-! ### types of data -/
variable {K : PySem.W.Frag}
theorem Same.sqt {H H' : Hp} {a : Addr} {xs : List V} (e : Same H H') (h : SqT K H a xs) : SqT K H' a xs := by
  rcases h with (h | ⟨o, h⟩) | h
  · exact .inl (.inl (e _ _ h))
  · exact .inl (.inr ⟨o, e _ _ h⟩)
  · exact .inr h
structure Ty (K : PySem.W.Frag) (α : Type) where
  rel : α → Hp → V → Prop
  mono : ∀ {a : α} {F F' : Hp} {v : V}, Same F F' → rel a F v → rel a F' v
abbrev Ty.all {α : Type} (T : Ty K α) (l : List α) (F : Hp) (xs : List V) : Prop := Paired (fun v a => T.rel a F v) xs l
theorem Ty.all_mono {α : Type} {T : Ty K α} {l : List α} {F F' : Hp} {xs : List V} (e : Same F F') (h : T.all l F xs) : T.all l F' xs := Paired.mapP h fun _ _ => T.mono e
/-- a list of values of given types: arguments, the places of a tuple -/
structure Tys (K : PySem.W.Frag) (α : Type) where
  n : Nat
  rel : α → Hp → List V → Prop
  mono : ∀ {a : α} {F F' : Hp} {v : List V}, Same F F' → rel a F v → rel a F' v
  len : ∀ {a : α} {F : Hp} {v : List V}, rel a F v → v.length = n
def tys0 : Tys K Unit := ⟨0, fun _ _ vs => vs = [], fun _ h => h, fun h => by rw [h]; rfl⟩
def tys1 {α : Type} (T : Ty K α) : Tys K α := ⟨1, fun a F vs => ∃ v, vs = [v] ∧ T.rel a F v, fun e ⟨v, h, r⟩ => ⟨v, h, T.mono e r⟩, fun ⟨v, h, _⟩ => by rw [h]; rfl⟩
def tysC {α β : Type} (T : Ty K α) (U : Tys K β) : Tys K (α × β) := ⟨U.n + 1, fun a F vs => ∃ v r, vs = v :: r ∧ T.rel a.1 F v ∧ U.rel a.2 F r, fun e ⟨v, r, h, q, z⟩ => ⟨v, r, h, T.mono e q, U.mono e z⟩, fun ⟨v, r, h, _, z⟩ => by rw [h, List.length_cons, U.len z]⟩

def yInt : Ty K Int := ⟨fun i _ v => v = .int i, fun _ h => h⟩
def yBl : Ty K Bool := ⟨fun i _ v => v = .bl i, fun _ h => h⟩
def yStr : Ty K Str := ⟨fun i _ v => v = .str i ∧ PySem.PyData.strOk i = true, fun _ h => h⟩
def yNon : Ty K Unit := ⟨fun _ _ v => v = .non, fun _ h => h⟩
def yNat : Ty K Nat := ⟨fun i _ v => v = .int i, fun _ h => h⟩
def yTup {α : Type} (U : Tys K α) : Ty K α := ⟨fun a F v => ∃ p xs, v = .ref p ∧ SqT K F p xs ∧ U.rel a F xs, fun e ⟨p, xs, h, q, r⟩ => ⟨p, xs, h, Same.sqt e q, U.mono e r⟩⟩
def yTupOf {α : Type} (T : Ty K α) : Ty K (List α) := ⟨fun a F v => ∃ p xs, v = .ref p ∧ SqT K F p xs ∧ T.all a F xs, fun e ⟨p, xs, h, q, r⟩ => ⟨p, xs, h, Same.sqt e q, Ty.all_mono e r⟩⟩
def yLst {α : Type} (T : Ty K α) : Ty K (List α) := ⟨fun a F v => ∃ p xs, v = .ref p ∧ F p = some (.lst xs) ∧ T.all a F xs, fun e ⟨p, xs, h, q, r⟩ => ⟨p, xs, h, e _ _ q, Ty.all_mono e r⟩⟩
/-- a list that may stand in the written part, or be locked (the script) -/
def yScr {α : Type} (T : Ty K α) : Ty K (List α) := ⟨fun a F v => ∃ p xs, v = .ref p ∧ SqL K F p xs ∧ T.all a F xs, fun e ⟨p, xs, h, q, r⟩ => ⟨p, xs, h, Same.seq e q, Ty.all_mono e r⟩⟩
def yOpt {α : Type} (T : Ty K α) : Ty K (Option α) := ⟨fun a F v => match a with
  | none => v = .non
  | some x => T.rel x F v ∧ v ≠ .non, fun {a} _ _ _ e h => by
    cases a with
    | none => exact h
    | some x => exact ⟨T.mono e h.1, h.2⟩⟩
def ySum {α β : Type} (T : Ty K α) (U : Ty K β) : Ty K (α ⊕ β) := ⟨fun a F v => match a with
  | .inl x => T.rel x F v
  | .inr y => U.rel y F v, fun {a} _ _ _ e h => by
    cases a with
    | inl x => exact T.mono e h
    | inr x => exact U.mono e h⟩

/-! ### objects that a def owns -/
/-- what a def may own: a list, a dict, a set -/
def Lc : HO → Prop
  | .lst _ => True
  | .dK _ => True
  | .dT _ => True
  | .set _ _ => True
  | .ext _ => True
  | _ => False
theorem Lc.mut {o : HO} (h : Lc o) : Mut (some o) := by cases o <;> first | trivial | exact h.elim
structure Ct (K : PySem.W.Frag) (α : Type) where
  obj : α → Hp → Addr → HO → Prop
  mono : ∀ {a : α} {F F' : Hp} {p : Addr} {o : HO}, Same F F' → obj a F p o → obj a F' p o
  mu : ∀ {a : α} {F : Hp} {p : Addr} {o : HO}, obj a F p o → Lc o
def cLst {α : Type} (T : Ty K α) : Ct K (List α) := ⟨fun a F _ o => ∃ xs, o = .lst xs ∧ T.all a F xs, fun e ⟨xs, h, r⟩ => ⟨xs, h, Ty.all_mono e r⟩, fun ⟨xs, h, _⟩ => by subst h; trivial⟩

/-- the entry: what was there (H0), what of it stays as it is and may be leant on (F0) -/
structure B where
  H0 : Hp
  F0 : Hp
inductive Slt (K : PySem.W.Frag) : Type 1 where
  | pl {α : Type} (T : Ty K α) (a : α)
  | ow {α : Type} (C : Ct K α) (a : α)
def Slt.isOw : Slt K → Bool
  | .pl _ _ => false
  | .ow _ _ => true
def Slt.At (b : B) (F H : Hp) (v : V) : Slt K → Prop
  | .pl T a => T.rel a F v
  | .ow C a => ∃ p o, v = .ref p ∧ H p = some o ∧ F p = none ∧ b.H0 p = none ∧ C.obj a F p o
abbrev Ev (K : PySem.W.Frag) := List (Option (Slt K))
/-- new cells of F were not there at the entry -/
def Nw (b : B) (F : Hp) : Prop := ∀ a o, F a = some o → b.F0 a = none → b.H0 a = none
structure Sta (b : B) (ρ : Ev K) (F : Hp) (σ : St) (H : Hp) : Prop where
  h0 : Same b.H0 H
  f0 : Same b.F0 F
  fh : Same F H
  nw : Nw b F
  len : σ.length = ρ.length
  sl : ∀ (i : Nat) (s : Slt K), ρ[i]? = some (some s) → ∃ v, σ[i]? = some (some v) ∧ s.At b F H v
  ds : ∀ (i j : Nat) (s t : Slt K) (v : Option V), ρ[i]? = some (some s) → ρ[j]? = some (some t) → s.isOw = true → t.isOw = true → σ[i]? = some v → σ[j]? = some v → i = j
section
variable {b : B} {ρ : Ev K} {F F' : Hp} {σ : St} {H H' : Hp}
theorem Slt.At.mono {s : Slt K} {v : V} (a : s.At b F H v) (h : Same H H') (f : Same F F') (hf : ∀ p, (∃ o, H p = some o) → F p = none → F' p = none) : s.At b F' H' v := by
  cases s with
  | pl T a' => exact T.mono f a
  | ow C a' =>
    obtain ⟨p, o, e, e1, e2, e3, e4⟩ := a
    exact ⟨p, o, e, h _ _ e1, hf p ⟨o, e1⟩ e2, e3, C.mono f e4⟩
/-- the heap grows; what is leant on grows by new things alone -/
theorem Sta.grow (S : Sta b ρ F σ H) (h : Same H H') (f : Same F F') (fh : Same F' H') (hf : ∀ p, (∃ o, H p = some o) → F p = none → F' p = none) : Sta b ρ F' σ H' :=
  have nw : Nw b F' := fun a o e1 e2 => by
    cases q : F a with
    | some u => exact S.nw a u q e2
    | none =>
      cases z : b.H0 a with
      | none => rfl
      | some u =>
        have := hf a ⟨u, S.h0 _ _ z⟩ q
        rw [this] at e1; cases e1
  ⟨S.h0.trans h, S.f0.trans f, fh, nw, S.len, fun i s e => let ⟨v, q, a⟩ := S.sl i s e; ⟨v, q, a.mono h f hf⟩, S.ds⟩
theorem same_upd {p : Addr} {o : HO} (n : H p = none) : Same H (upd H p o) := fun c u e => by rw [upd_ne (ne_of_none e n)]; exact e
theorem same_upd2 {p : Addr} {o : HO} (fh : Same F H) (n : H p = none) : Same (upd F p o) (upd H p o) := fun c u e => by
  by_cases hc : c = p
  · subst hc; rw [upd_same] at e ⊢; exact e
  · rw [upd_ne hc] at e ⊢; exact fh _ _ e
/-- a new object that stays as it is -/
theorem Sta.new {p : Addr} {o : HO} (S : Sta b ρ F σ H) (n : H p = none) : Sta b ρ (upd F p o) σ (upd H p o) :=
  S.grow (same_upd n) (same_upd (S.fh.free n)) (same_upd2 S.fh n) fun q ⟨u, e⟩ z => by rw [upd_ne (ne_of_none e n)]; exact z
/-- a new object that is not leant on -/
theorem Sta.newH {p : Addr} {o : HO} (S : Sta b ρ F σ H) (n : H p = none) : Sta b ρ F σ (upd H p o) :=
  S.grow (same_upd n) (Same.refl _) (S.fh.trans (same_upd n)) fun q _ z => z
theorem Sta.freshF (S : Sta b ρ F σ H) {p : Addr} (n : H p = none) : F p = none := S.fh.free n
theorem Sta.freshB (S : Sta b ρ F σ H) {p : Addr} (n : H p = none) : b.H0 p = none := S.h0.free n

/-- data without lists, dicts, sets in it -/
def Ty.imm {α : Type} (T : Ty K α) : Prop := ∀ {a : α} {F F' : Hp} {v : V}, (∀ p o, F p = some o → ¬ Lc o → F' p = some o) → T.rel a F v → T.rel a F' v
def Tys.imm {α : Type} (T : Tys K α) : Prop := ∀ {a : α} {F F' : Hp} {v : List V}, (∀ p o, F p = some o → ¬ Lc o → F' p = some o) → T.rel a F v → T.rel a F' v
def frzL : HO → Prop
  | .frz _ _ => True
  | _ => False
theorem imm_sqt {F F' : Hp} {p : Addr} {xs : List V} (h : ∀ p o, F p = some o → ¬ Lc o → F' p = some o) (q : SqT K F p xs) : SqT K F' p xs := by
  rcases q with (q | ⟨o, q⟩) | q
  · exact .inl (.inl (h _ _ q id))
  · exact .inl (.inr ⟨o, h _ _ q id⟩)
  · exact .inr q
theorem imm_int : (yInt (K := K)).imm := fun _ h => h
theorem imm_bl : (yBl (K := K)).imm := fun _ h => h
theorem imm_str : (yStr (K := K)).imm := fun _ h => h
theorem imm_non : (yNon (K := K)).imm := fun _ h => h
theorem imm_1 {α : Type} {T : Ty K α} (i : T.imm) : (tys1 T).imm := fun h ⟨v, e, r⟩ => ⟨v, e, i h r⟩
theorem imm_C {α β : Type} {T : Ty K α} {U : Tys K β} (i : T.imm) (j : U.imm) : (tysC T U).imm := fun h ⟨v, vs, e, r, q⟩ => ⟨v, vs, e, i h r, j h q⟩
theorem imm_tup {α : Type} {U : Tys K α} (i : U.imm) : (yTup U).imm := fun h ⟨p, xs, e, q, r⟩ => ⟨p, xs, e, imm_sqt h q, i h r⟩
theorem imm_all {α : Type} {T : Ty K α} (i : T.imm) {l : List α} {F F' : Hp} {xs : List V} (h : ∀ p o, F p = some o → ¬ Lc o → F' p = some o) (r : T.all l F xs) : T.all l F' xs := Paired.mapP r fun _ _ => i h
theorem imm_tupOf {α : Type} {T : Ty K α} (i : T.imm) : (yTupOf T).imm := fun h ⟨p, xs, e, q, r⟩ => ⟨p, xs, e, imm_sqt h q, imm_all i h r⟩
theorem imm_opt {α : Type} {T : Ty K α} (i : T.imm) : (yOpt T).imm := fun {a} _ _ _ h r => by
  cases a with
  | none => exact r
  | some x => exact ⟨i h r.1, r.2⟩
theorem imm_sum {α β : Type} {T : Ty K α} {U : Ty K β} (i : T.imm) (j : U.imm) : (ySum T U).imm := fun {a} _ _ _ h r => by
  cases a with
  | inl x => exact i h r
  | inr x => exact j h r
def Ct.imm {α : Type} (C : Ct K α) : Prop := ∀ {a : α} {F F' : Hp} {p : Addr} {o : HO}, (∀ p o, F p = some o → ¬ Lc o → F' p = some o) → C.obj a F p o → C.obj a F' p o
theorem imm_cLst {α : Type} {T : Ty K α} (i : T.imm) : (cLst T).imm := fun h ⟨xs, e, r⟩ => ⟨xs, e, imm_all i h r⟩
/-- a slot is stored -/
theorem getset.{u} {α : Type u} {l : List α} {i j : Nat} {x y : α} (h : (l.set i x)[j]? = some y) : (j = i ∧ y = x) ∨ (j ≠ i ∧ l[j]? = some y) := by
  by_cases e : j = i
  · subst e
    rw [List.getElem?_set] at h
    simp only [if_true] at h
    split at h
    · exact .inl ⟨rfl, (Option.some.inj h).symm⟩
    · cases h
  · rw [List.getElem?_set_ne (Ne.symm e)] at h
    exact .inr ⟨e, h⟩
theorem Sta.setP {α : Type} {T : Ty K α} {a : α} {i : Nat} {v : V} (S : Sta b ρ F σ H) (r : T.rel a F v) : Sta b (ρ.set i (some (.pl T a))) F (σ.set i (some v)) H where
  h0 := S.h0
  f0 := S.f0
  fh := S.fh
  nw := S.nw
  len := by rw [List.length_set, List.length_set]; exact S.len
  sl := fun j s e => by
    rcases getset e with ⟨rfl, q⟩ | ⟨ne, q⟩
    · cases q
      have hj : j < σ.length := by
        have := (List.getElem?_eq_some_iff.mp e).1
        rw [List.length_set] at this
        rw [S.len]; exact this
      exact ⟨v, List.getElem?_set_self hj, r⟩
    · obtain ⟨w, e1, e2⟩ := S.sl j s q
      exact ⟨w, by rw [List.getElem?_set_ne (Ne.symm ne)]; exact e1, e2⟩
  ds := fun j k s t w e1 e2 o1 o2 e3 e4 => by
    rcases getset e1 with ⟨rfl, q⟩ | ⟨n1, q1⟩
    · cases q; cases o1
    · rcases getset e2 with ⟨rfl, q⟩ | ⟨n2, q2⟩
      · cases q; cases o2
      · rw [List.getElem?_set_ne (Ne.symm n1)] at e3
        rw [List.getElem?_set_ne (Ne.symm n2)] at e4
        exact S.ds j k s t w q1 q2 o1 o2 e3 e4
/-- .. with an object that nobody else knows -/
theorem Sta.setO {α : Type} {C : Ct K α} {a : α} {i : Nat} {p : Addr} {o : HO} (S : Sta b ρ F σ H) (hp : H p = some o) (fp : F p = none) (bp : b.H0 p = none) (r : C.obj a F p o)
    (un : ∀ (j : Nat) (s : Slt K), ρ[j]? = some (some s) → s.isOw = true → σ[j]? = some (some (.ref p)) → False) : Sta b (ρ.set i (some (.ow C a))) F (σ.set i (some (.ref p))) H where
  h0 := S.h0
  f0 := S.f0
  fh := S.fh
  nw := S.nw
  len := by rw [List.length_set, List.length_set]; exact S.len
  sl := fun j s e => by
    rcases getset e with ⟨rfl, q⟩ | ⟨ne, q⟩
    · cases q
      have hj : j < σ.length := by
        have := (List.getElem?_eq_some_iff.mp e).1
        rw [List.length_set] at this
        rw [S.len]; exact this
      exact ⟨_, List.getElem?_set_self hj, p, o, rfl, hp, fp, bp, r⟩
    · obtain ⟨w, e1, e2⟩ := S.sl j s q
      exact ⟨w, by rw [List.getElem?_set_ne (Ne.symm ne)]; exact e1, e2⟩
  ds := fun j k s t w e1 e2 o1 o2 e3 e4 => by
    rcases getset e1 with ⟨ej, q⟩ | ⟨n1, q1⟩
    · rcases getset e2 with ⟨ek, q'⟩ | ⟨n2, q2⟩
      · exact ej.trans ek.symm
      · rw [List.getElem?_set_ne (Ne.symm n2)] at e4
        subst ej
        have hj : j < σ.length := by
          have := (List.getElem?_eq_some_iff.mp e1).1
          rw [List.length_set] at this
          rw [S.len]; exact this
        rw [List.getElem?_set_self hj] at e3
        cases e3
        exact (un k t q2 o2 e4).elim
    · rw [List.getElem?_set_ne (Ne.symm n1)] at e3
      rcases getset e2 with ⟨ek, q'⟩ | ⟨n2, q2⟩
      · subst ek
        have hj : k < σ.length := by
          have := (List.getElem?_eq_some_iff.mp e2).1
          rw [List.length_set] at this
          rw [S.len]; exact this
        rw [List.getElem?_set_self hj] at e4
        cases e4
        exact (un j s q1 o1 e3).elim
      · rw [List.getElem?_set_ne (Ne.symm n2)] at e4
        exact S.ds j k s t w q1 q2 o1 o2 e3 e4
theorem Sta.fresh_un {p : Addr} (S : Sta b ρ F σ H) (n : H p = none) : ∀ (j : Nat) (s : Slt K), ρ[j]? = some (some s) → s.isOw = true → σ[j]? = some (some (.ref p)) → False := fun j s e o e2 => by
  obtain ⟨v, e3, a⟩ := S.sl j s e
  rw [e2] at e3; cases e3
  cases s with
  | pl T a' => cases o
  | ow C a' =>
    obtain ⟨q, u, e4, e5, _⟩ := a
    cases e4
    rw [n] at e5; cases e5
/-- slots are forgotten, or a plain one is seen as another type -/
inductive Wk : Ev K → Ev K → Prop
  | nil : Wk [] []
  | keep {s : Option (Slt K)} {ρ ρ' : Ev K} : Wk ρ ρ' → Wk (s :: ρ) (s :: ρ')
  | drop {s : Option (Slt K)} {ρ ρ' : Ev K} : Wk ρ ρ' → Wk (s :: ρ) (none :: ρ')
theorem Wk.refl : ∀ ρ : Ev K, Wk ρ ρ
  | [] => .nil
  | _ :: ρ => .keep (Wk.refl ρ)
theorem Wk.len {ρ ρ' : Ev K} (w : Wk ρ ρ') : ρ.length = ρ'.length := by induction w <;> simp_all
theorem Wk.get {ρ ρ' : Ev K} (w : Wk ρ ρ') : ∀ {i : Nat} {s : Slt K}, ρ'[i]? = some (some s) → ρ[i]? = some (some s) := by
  induction w with
  | nil => intro i s h; exact h
  | keep w ih =>
    intro i s h
    cases i with
    | zero => exact h
    | succ i => exact ih (i := i) h
  | drop w ih =>
    intro i s h
    cases i with
    | zero => simp at h
    | succ i => exact ih (i := i) h
theorem Sta.wk {ρ' : Ev K} (S : Sta b ρ F σ H) (w : Wk ρ ρ') : Sta b ρ' F σ H :=
  ⟨S.h0, S.f0, S.fh, S.nw, S.len.trans w.len, fun i s e => S.sl i s (w.get e), fun i j s t v e1 e2 => S.ds i j s t v (w.get e1) (w.get e2)⟩
/-- an owned object is given up: it stays as it is from here on -/
def Ct.ty {α : Type} (C : Ct K α) : Ty K α := ⟨fun a F v => ∃ p o, v = .ref p ∧ F p = some o ∧ C.obj a F p o, fun e ⟨p, o, h, q, r⟩ => ⟨p, o, h, e _ _ q, C.mono e r⟩⟩
theorem cLst_ty {α : Type} {T : Ty K α} {a : List α} {F : Hp} {v : V} (h : (cLst T).ty.rel a F v) : (yLst T).rel a F v := by
  obtain ⟨p, o, e, q, xs, rfl, r⟩ := h
  exact ⟨p, xs, e, q, r⟩
theorem Sta.give {α : Type} {C : Ct K α} {a : α} {T : Ty K α} {i : Nat} (S : Sta b ρ F σ H) (hi : ρ[i]? = some (some (.ow C a))) (ht : ∀ {F : Hp} {v : V}, C.ty.rel a F v → T.rel a F v) :
    ∃ F', Same F F' ∧ Sta b (ρ.set i (some (.pl T a))) F' σ H := by
  obtain ⟨v, hv, p, o, rfl, h1, h2, h3, h4⟩ := S.sl i _ hi
  have sf : Same F (upd F p o) := same_upd h2
  refine ⟨upd F p o, sf, S.h0, S.f0.trans sf, fun c u e => ?_, fun c u e e' => ?_, ?_, fun j s e => ?_, fun j k s t w e1 e2 o1 o2 e3 e4 => ?_⟩
  · by_cases hc : c = p
    · subst hc; rw [upd_same] at e; cases e; exact h1
    · rw [upd_ne hc] at e; exact S.fh _ _ e
  · by_cases hc : c = p
    · subst hc; exact h3
    · rw [upd_ne hc] at e; exact S.nw _ _ e e'
  · rw [List.length_set]; exact S.len
  · rcases getset e with ⟨rfl, q⟩ | ⟨ne, q⟩
    · cases q
      exact ⟨_, hv, ht ⟨p, o, rfl, upd_same, C.mono sf h4⟩⟩
    · obtain ⟨w, e1, e2⟩ := S.sl j s q
      refine ⟨w, e1, ?_⟩
      cases s with
      | pl T' a' => exact T'.mono sf e2
      | ow C' a' =>
        obtain ⟨p', o', rfl, q1, q2, q3, q4⟩ := e2
        refine ⟨p', o', rfl, q1, ?_, q3, C'.mono sf q4⟩
        rw [upd_ne]
        · exact q2
        · rintro rfl
          exact ne (S.ds j i _ _ _ q hi rfl rfl e1 hv)
  · rcases getset e1 with ⟨rfl, q⟩ | ⟨n1, q1⟩
    · cases q; cases o1
    · rcases getset e2 with ⟨rfl, q⟩ | ⟨n2, q2⟩
      · cases q; cases o2
      · exact S.ds j k s t w q1 q2 o1 o2 e3 e4
/-- the object of a slot is changed -/
theorem Sta.change {α β : Type} {C : Ct K α} {a : α} {C' : Ct K β} {a' : β} {i : Nat} {p : Addr} {o' : HO} (S : Sta b ρ F σ H) (hi : ρ[i]? = some (some (.ow C a))) (hv : σ[i]? = some (some (.ref p))) (r : C'.obj a' F p o') :
    Sta b (ρ.set i (some (.ow C' a'))) F σ (upd H p o') := by
  obtain ⟨v, hv', q, o, rfl, h1, h2, h3, h4⟩ := S.sl i _ hi
  rw [hv] at hv'; cases hv'
  refine ⟨fun c u e => ?_, S.f0, fun c u e => ?_, S.nw, ?_, fun j s e => ?_, fun j k s t w e1 e2 o1 o2 e3 e4 => ?_⟩
  · rw [upd_ne (ne_of_none e h3)]; exact S.h0 _ _ e
  · rw [upd_ne (ne_of_none e h2)]; exact S.fh _ _ e
  · rw [List.length_set]; exact S.len
  · rcases getset e with ⟨rfl, q⟩ | ⟨ne, q⟩
    · cases q
      exact ⟨_, hv, p, o', rfl, upd_same, h2, h3, r⟩
    · obtain ⟨w, e1, e2⟩ := S.sl j s q
      refine ⟨w, e1, ?_⟩
      cases s with
      | pl T' a' => exact e2
      | ow C' a' =>
        obtain ⟨p', o', rfl, q1, q2, q3, q4⟩ := e2
        refine ⟨p', o', rfl, ?_, q2, q3, q4⟩
        rw [upd_ne]
        · exact q1
        · rintro rfl
          exact ne (S.ds j i _ _ _ q hi rfl rfl e1 hv)
  · have fix : ∀ {k : Nat} {s : Slt K}, (ρ.set i (some (Slt.ow C' a')))[k]? = some (some s) → ∃ s', ρ[k]? = some (some s') ∧ (s.isOw = true → s'.isOw = true) := fun {k s} e => by
      rcases getset e with ⟨rfl, q⟩ | ⟨n, q⟩
      · exact ⟨_, hi, fun _ => rfl⟩
      · exact ⟨s, q, id⟩
    obtain ⟨s', q1, z1⟩ := fix e1
    obtain ⟨t', q2, z2⟩ := fix e2
    exact S.ds j k s' t' w q1 q2 (z1 o1) (z2 o2) e3 e4
end
end Cp

/-! The data layer: judgements, expressions. -/
namespace Cp
open PySem L2
variable {K : PySem.W.Frag} {ε : Type}

/-- how an error looks: what it is, what is leant on, its class, its dict, the heap -/
structure Ex (ε : Type) where
  rel : ε → Hp → Value → Option Addr → Hp → Prop
  imm : ∀ {e : ε} {F F' : Hp} {cls : Value} {od : Option Addr} {H : Hp}, (∀ p o, F p = some o → ¬ Lc o → F' p = some o) → rel e F cls od H → rel e F' cls od H
/-- what is done with errors: how they look, what is wanted of one, what the slots hold then -/
structure Jc (K : PySem.W.Frag) (ε : Type) where
  EX : Ex ε
  E : St → XK
  eh : Ev K
/-- nothing is let out -/
def Jc.no (J : Jc K ε) : Jc K ε := ⟨J.EX, fun _ _ _ _ => False, J.eh⟩
def Pex (J : Jc K ε) (b : B) (e : ε) : Prop := ∀ F' σ' cls od H', Sta b J.eh F' σ' H' → J.EX.rel e F' cls od H' → J.E σ' cls od H'
/-- growth -/
structure Gr (F H F' H' : Hp) : Prop where
  f : Same F F'
  h : Same H H'
  n : ∀ p, (∃ o, H p = some o) → F p = none → F' p = none
theorem Gr.refl (F H : Hp) : Gr F H F H := ⟨Same.refl _, Same.refl _, fun _ _ h => h⟩
theorem Gr.trans {F H F1 H1 F2 H2 : Hp} (a : Gr F H F1 H1) (b : Gr F1 H1 F2 H2) : Gr F H F2 H2 :=
  ⟨a.f.trans b.f, a.h.trans b.h, fun p ⟨o, e⟩ n => b.n p ⟨o, a.h _ _ e⟩ (a.n p ⟨o, e⟩ n)⟩
theorem Gr.sta {b : B} {ρ : Ev K} {F F' : Hp} {σ : St} {H H' : Hp} (g : Gr F H F' H') (S : Sta b ρ F σ H) (fh : Same F' H') : Sta b ρ F' σ H' := S.grow g.h g.f fh g.n
theorem Gr.new {F H : Hp} {p : Addr} {o : HO} (fh : Same F H) (n : H p = none) : Gr F H (upd F p o) (upd H p o) :=
  ⟨same_upd (fh.free n), same_upd n, fun q ⟨u, e⟩ z => by rw [upd_ne (ne_of_none e n)]; exact z⟩
theorem Gr.newH {F H : Hp} {p : Addr} {o : HO} (n : H p = none) : Gr F H F (upd H p o) := ⟨Same.refl _, same_upd n, fun _ _ z => z⟩

/-! ### a borrowed view: what is leant on, and the objects of the slots -/
open Classical in
noncomputable def Gh (ρ : Ev K) (σ : St) (F H : Hp) : Hp := fun a => match F a with
  | some o => some o
  | none => if ∃ (i : Nat) (s : Slt K), ρ[i]? = some (some s) ∧ s.isOw = true ∧ σ[i]? = some (some (.ref a)) then H a else none
section
variable {b : B} {ρ : Ev K} {F F' : Hp} {σ : St} {H H' : Hp}
theorem Gh.ge : Same F (Gh ρ σ F H) := fun a o e => by unfold Gh; rw [e]
theorem Gh.le (fh : Same F H) : Same (Gh ρ σ F H) H := fun a o e => by
  unfold Gh at e
  cases q : F a with
  | some u => rw [q] at e; exact fh _ _ (q.trans e)
  | none =>
    rw [q] at e
    simp only at e
    split at e
    · exact e
    · cases e
theorem Gh.own {i : Nat} {s : Slt K} {p : Addr} (hi : ρ[i]? = some (some s)) (ho : s.isOw = true) (hs : σ[i]? = some (some (.ref p))) (fp : F p = none) : Gh ρ σ F H p = H p := by
  unfold Gh
  rw [fp]
  simp only
  rw [if_pos ⟨i, s, hi, ho, hs⟩]
theorem Gh.mono (g : Gr F H F' H') (S : Sta b ρ F σ H) : Same (Gh ρ σ F H) (Gh ρ σ F' H') := fun a o e => by
  unfold Gh at e
  cases q : F a with
  | some u =>
    rw [q] at e
    exact Gh.ge _ _ (g.f _ _ (q.trans e))
  | none =>
    rw [q] at e
    simp only at e
    split at e
    case isFalse => cases e
    case isTrue z =>
      obtain ⟨i, s, z1, z2, z3⟩ := z
      rw [Gh.own z1 z2 z3 (g.n _ ⟨o, e⟩ q)]
      exact g.h _ _ e
end

/-! ### kinds of answers -/
structure Rk (K : PySem.W.Frag) (α : Type) where
  at_ : Ev K → St → Hp → Hp → Hp → α → V → Prop
  start : ∀ {ρ : Ev K} {σ : St} {H H' F'' H'' : Hp} {a : α} {v : V}, Same H H' → at_ ρ σ H' F'' H'' a v → at_ ρ σ H F'' H'' a v
/-- data that is leant on, data that is looked at -/
inductive Md where
  | p | b
noncomputable def Md.hp (ρ : Ev K) (σ : St) (F H : Hp) : Md → Hp
  | .p => F
  | .b => Gh ρ σ F H
noncomputable def rV {α : Type} (μ : Md) (T : Ty K α) : Rk K α := ⟨fun ρ σ _ F H a v => T.rel a (μ.hp ρ σ F H) v, fun _ h => h⟩
noncomputable abbrev rP {α : Type} (T : Ty K α) : Rk K α := rV .p T
noncomputable abbrev rB {α : Type} (T : Ty K α) : Rk K α := rV .b T
/-- a new object that nobody else knows -/
def rF {α : Type} (C : Ct K α) : Rk K α := ⟨fun _ _ Hs F H a v => ∃ p o, v = .ref p ∧ Hs p = none ∧ H p = some o ∧ F p = none ∧ C.obj a F p o, fun e ⟨p, o, h1, h2, h⟩ => ⟨p, o, h1, e.free h2, h⟩⟩
section
variable (J : Jc K ε)
def PostE {α : Type} (b : B) (ρ : Ev K) (P : Rk K α) (F : Hp) (σ : St) (H : Hp) (Q : VK) : R ε α → Prop
  | .ok a => ∀ F' v H', Gr F H F' H' → Sta b ρ F' σ H' → P.at_ ρ σ H F' H' a v → Q v H'
  | .exn e => Pex J b e
  | .bad => False
def PostT (b : B) (ρ : Ev K) (F : Hp) (σ : St) (H : Hp) (Q : Bool → Hp → Prop) : R ε Bool → Prop
  | .ok a => ∀ F' H', Gr F H F' H' → Sta b ρ F' σ H' → Q a H'
  | .exn e => Pex J b e
  | .bad => False
def PostA {α : Type} (b : B) (ρ : Ev K) (U : Tys K α) (F : Hp) (σ : St) (H : Hp) (Q : List V → Hp → Prop) : R ε α → Prop
  | .ok a => ∀ F' v H', Gr F H F' H' → Sta b ρ F' σ H' → U.rel a (Gh ρ σ F' H') v → Q v H'
  | .exn e => Pex J b e
  | .bad => False
def Eval {α : Type} (t : TE) (ρ : Ev K) (P : Rk K α) (m : R ε α) : Prop := ∀ (b : B) (F : Hp) (σ : St) (H : Hp) (Q : VK), Sta b ρ F σ H → PostE J b ρ P F σ H Q m → t σ H Q
def EvalT (t : TT) (ρ : Ev K) (m : R ε Bool) : Prop := ∀ (b : B) (F : Hp) (σ : St) (H : Hp) (Q : Bool → Hp → Prop), Sta b ρ F σ H → PostT J b ρ F σ H Q m → t σ H Q
def EvalA {α : Type} (t : TA) (ρ : Ev K) (U : Tys K α) (m : R ε α) : Prop := ∀ (b : B) (F : Hp) (σ : St) (H : Hp) (Q : List V → Hp → Prop), Sta b ρ F σ H → PostA J b ρ U F σ H Q m → t σ H Q
structure DE {α : Type} (X : Cx) (J : Jc X.K ε) (ρ : Ev X.K) (e : Expr) (t : TE) (P : Rk X.K α) (m : R ε α) : Prop where
  pe : PE X e t
  ev : Eval J t ρ P m
structure DT (X : Cx) (J : Jc X.K ε) (ρ : Ev X.K) (e : Expr) (t : TT) (m : R ε Bool) : Prop where
  pt : PT X e t
  ev : EvalT J t ρ m
structure DA {α : Type} (X : Cx) (J : Jc X.K ε) (ρ : Ev X.K) (es : List Expr) (t : TA) (U : Tys X.K α) (m : R ε α) : Prop where
  pa : PA X es t
  ev : EvalA J t ρ U m
end
section
variable {J : Jc K ε} {α β γ : Type} {b : B} {ρ : Ev K} {F F' : Hp} {σ : St} {H H' : Hp} {Q : VK} {P : Rk K α}
theorem PostE.later {m : R ε α} (g : Gr F H F' H') (h : PostE J b ρ P F σ H Q m) : PostE J b ρ P F' σ H' Q m := by
  cases m with
  | ok a => exact fun F'' v H'' g' S r => h F'' v H'' (g.trans g') S (P.start g.h r)
  | exn e => exact h
  | bad => exact h
theorem PostT.later {Q : Bool → Hp → Prop} {m : R ε Bool} (g : Gr F H F' H') (h : PostT J b ρ F σ H Q m) : PostT J b ρ F' σ H' Q m := by
  cases m with
  | ok a => exact fun F'' H'' g' S => h F'' H'' (g.trans g') S
  | exn e => exact h
  | bad => exact h
/-- what comes first -/
theorem Eval.then_ {t : TE} {P' : Rk K β} {m : R ε β} {k : β → R ε α} {R' : VK} (h : Eval J t ρ P' m) (S : Sta b ρ F σ H) (q : PostE J b ρ P F σ H Q (m.bind k))
    (hk : ∀ a F' v H', Gr F H F' H' → Sta b ρ F' σ H' → P'.at_ ρ σ H F' H' a v → PostE J b ρ P F' σ H' Q (k a) → R' v H') : t σ H R' := by
  refine h b F σ H R' S ?_
  cases m with
  | ok a => exact fun F' v H' g S' r => hk a F' v H' g S' r (PostE.later g q)
  | exn e => exact q
  | bad => exact q
theorem Eval.thenT {t : TE} {P' : Rk K β} {m : R ε β} {k : β → R ε Bool} {Q : Bool → Hp → Prop} {R' : VK} (h : Eval J t ρ P' m) (S : Sta b ρ F σ H) (q : PostT J b ρ F σ H Q (m.bind k))
    (hk : ∀ a F' v H', Gr F H F' H' → Sta b ρ F' σ H' → P'.at_ ρ σ H F' H' a v → PostT J b ρ F' σ H' Q (k a) → R' v H') : t σ H R' := by
  refine h b F σ H R' S ?_
  cases m with
  | ok a => exact fun F' v H' g S' r => hk a F' v H' g S' r (PostT.later g q)
  | exn e => exact q
  | bad => exact q
theorem EvalT.then_ {t : TT} {m : R ε Bool} {k : Bool → R ε α} {R' : Bool → Hp → Prop} (h : EvalT J t ρ m) (S : Sta b ρ F σ H) (q : PostE J b ρ P F σ H Q (m.bind k))
    (hk : ∀ a F' H', Gr F H F' H' → Sta b ρ F' σ H' → PostE J b ρ P F' σ H' Q (k a) → R' a H') : t σ H R' := by
  refine h b F σ H R' S ?_
  cases m with
  | ok a => exact fun F' H' g S' => hk a F' H' g S' (PostE.later g q)
  | exn e => exact q
  | bad => exact q
theorem EvalT.thenT {t : TT} {m : R ε Bool} {k : Bool → R ε Bool} {Q R' : Bool → Hp → Prop} (h : EvalT J t ρ m) (S : Sta b ρ F σ H) (q : PostT J b ρ F σ H Q (m.bind k))
    (hk : ∀ a F' H', Gr F H F' H' → Sta b ρ F' σ H' → PostT J b ρ F' σ H' Q (k a) → R' a H') : t σ H R' := by
  refine h b F σ H R' S ?_
  cases m with
  | ok a => exact fun F' H' g S' => hk a F' H' g S' (PostT.later g q)
  | exn e => exact q
  | bad => exact q
theorem EvalA.then_ {t : TA} {U : Tys K β} {m : R ε β} {k : β → R ε α} {R' : List V → Hp → Prop} (h : EvalA J t ρ U m) (S : Sta b ρ F σ H) (q : PostE J b ρ P F σ H Q (m.bind k))
    (hk : ∀ a F' v H', Gr F H F' H' → Sta b ρ F' σ H' → U.rel a (Gh ρ σ F' H') v → PostE J b ρ P F' σ H' Q (k a) → R' v H') : t σ H R' := by
  refine h b F σ H R' S ?_
  cases m with
  | ok a => exact fun F' v H' g S' r => hk a F' v H' g S' r (PostE.later g q)
  | exn e => exact q
  | bad => exact q
theorem PostE.here {a : α} {v : V} (q : PostE J b ρ P F σ H Q (.ok a)) (S : Sta b ρ F σ H) (r : P.at_ ρ σ H F H a v) : Q v H := q F v H (Gr.refl _ _) S r
/-- plain data is data to be looked at -/
theorem rel_pb {T : Ty K α} {a : α} {v : V} (r : T.rel a F v) : T.rel a (Gh ρ σ F H) v := T.mono Gh.ge r
end

theorem Md.le {b : B} {ρ : Ev K} {F : Hp} {σ : St} {H : Hp} (S : Sta b ρ F σ H) : ∀ μ : Md, Same (μ.hp ρ σ F H) H
  | .p => S.fh
  | .b => Gh.le S.fh
theorem Md.ge {ρ : Ev K} {F : Hp} {σ : St} {H : Hp} : ∀ μ : Md, Same F (μ.hp ρ σ F H)
  | .p => Same.refl _
  | .b => Gh.ge
theorem Md.mono {b : B} {ρ : Ev K} {F F' : Hp} {σ : St} {H H' : Hp} (g : Gr F H F' H') (S : Sta b ρ F σ H) : ∀ μ : Md, Same (μ.hp ρ σ F H) (μ.hp ρ σ F' H')
  | .p => g.f
  | .b => Gh.mono g S
theorem Md.gb {ρ : Ev K} {F : Hp} {σ : St} {H : Hp} : ∀ μ : Md, Same (μ.hp ρ σ F H) (Gh ρ σ F H)
  | .p => Gh.ge
  | .b => Same.refl _

/-! ### from kind to kind -/
section
variable {α β γ : Type} {X : Cx} {J : Jc X.K ε} {ρ : Ev X.K} {e : Expr} {t : TE} {m : R ε α}
theorem PostE.conv {J : Jc K ε} {b : B} {ρ : Ev K} {P : Rk K α} {P' : Rk K β} {F : Hp} {σ : St} {H : Hp} {Q : VK} {m : R ε α} {f : α → β} (q : PostE J b ρ P' F σ H Q (m.bind fun a => .ok (f a)))
    (hc : ∀ {F' H' : Hp} {a : α} {v : V}, Gr F H F' H' → Sta b ρ F' σ H' → P.at_ ρ σ H F' H' a v → ∃ F'', Gr F H F'' H' ∧ Sta b ρ F'' σ H' ∧ P'.at_ ρ σ H F'' H' (f a) v) : PostE J b ρ P F σ H Q m := by
  cases m with
  | ok a => exact fun F' v H' g S' r => let ⟨F'', g', S'', r'⟩ := hc g S' r; q F'' v H' g' S'' r'
  | exn e => exact q
  | bad => exact q
/-- seen as another type -/
theorem DE.as_ {T : Ty X.K α} {U : Ty X.K β} {f : α → β} (h : DE X J ρ e t (rP T) m) (hc : ∀ {a F v}, T.rel a F v → U.rel (f a) F v) : DE X J ρ e t (rP U) (m.bind fun a => .ok (f a)) :=
  ⟨h.pe, fun b F σ H Q S q => h.ev b F σ H Q S (PostE.conv q fun g S' r => ⟨_, g, S', hc r⟩)⟩
theorem DE.asB {T : Ty X.K α} {U : Ty X.K β} {f : α → β} (h : DE X J ρ e t (rB T) m) (hc : ∀ {a F v}, T.rel a F v → U.rel (f a) F v) : DE X J ρ e t (rB U) (m.bind fun a => .ok (f a)) :=
  ⟨h.pe, fun b F σ H Q S q => h.ev b F σ H Q S (PostE.conv q fun g S' r => ⟨_, g, S', hc r⟩)⟩
theorem DE.cast {P : Rk X.K α} {m m' : R ε α} (h : DE X J ρ e t P m) (hm : m = m') : DE X J ρ e t P m' := hm ▸ h
theorem bindok (m : R ε α) : (m.bind fun a => R.ok a) = m := by cases m <;> rfl
theorem DE.pb {T : Ty X.K α} {μ : Md} (h : DE X J ρ e t (rV μ T) m) : DE X J ρ e t (rB T) m :=
  ⟨h.pe, fun b F σ H Q S q => h.ev b F σ H Q S (PostE.conv (f := id) (by rw [show (m.bind fun a => R.ok (id a)) = m from bindok m]; exact q) fun g S' r => ⟨_, g, S', T.mono (Md.gb μ) r⟩)⟩
/-- a new object is given out -/
theorem give_new {C : Ct K α} {b : B} {ρ : Ev K} {F F' : Hp} {σ : St} {H H' : Hp} {p : Addr} {o : HO} {a : α} (S : Sta b ρ F σ H) (g : Gr F H F' H') (S' : Sta b ρ F' σ H') (n : H p = none) (hp : H' p = some o) (fp : F' p = none) :
    Gr F H (upd F' p o) H' ∧ Sta b ρ (upd F' p o) σ H' := by
  have sf : Same F' (upd F' p o) := same_upd fp
  have fh : Same (upd F' p o) H' := fun c u e => by
    by_cases hc : c = p
    · subst hc; rw [upd_same] at e; cases e; exact hp
    · rw [upd_ne hc] at e; exact S'.fh _ _ e
  have g' : Gr F H (upd F' p o) H' := ⟨g.f.trans sf, g.h, fun q ⟨u, e⟩ z => by rw [upd_ne (ne_of_none e n)]; exact g.n q ⟨u, e⟩ z⟩
  exact ⟨g', g'.sta S fh⟩
theorem DE.fp {C : Ct X.K α} {T : Ty X.K α} (h : DE X J ρ e t (rF C) m) (hc : ∀ {a F v}, C.ty.rel a F v → T.rel a F v) : DE X J ρ e t (rP T) m :=
  ⟨h.pe, fun b F σ H Q S q => h.ev b F σ H Q S (PostE.conv (f := id) (by rw [show (m.bind fun a => R.ok (id a)) = m from bindok m]; exact q) fun {F' H' a v} g S' r => by
    obtain ⟨p, o, rfl, n, hp, fp, r⟩ := r
    obtain ⟨g', S''⟩ := give_new (C := C) (a := a) S g S' n hp fp
    exact ⟨_, g', S'', hc ⟨p, o, rfl, upd_same, C.mono (same_upd fp) r⟩⟩)⟩
theorem DE.fpL {T : Ty X.K α} {m : R ε (List α)} (h : DE X J ρ e t (rF (cLst T)) m) : DE X J ρ e t (rP (yLst T)) m := h.fp cLst_ty
/-- names -/
theorem de_var {T : Ty X.K α} {a : α} {i : Nat} (hp : PE X e (tVar i)) (hi : ρ[i]? = some (some (.pl T a))) : DE X J ρ e (tVar i) (rP T) (.ok a) :=
  ⟨hp, fun b F σ H Q S q => by
    obtain ⟨v, e1, r⟩ := S.sl i _ hi
    exact ⟨v, e1, PostE.here q S r⟩⟩
theorem de_own {C : Ct X.K α} {T : Ty X.K α} {a : α} {i : Nat} (hp : PE X e (tVar i)) (hi : ρ[i]? = some (some (.ow C a))) (hc : ∀ {a F v}, C.ty.rel a F v → T.rel a F v) : DE X J ρ e (tVar i) (rB T) (.ok a) :=
  ⟨hp, fun b F σ H Q S q => by
    obtain ⟨v, e1, p, o, rfl, r1, r2, r3, r4⟩ := S.sl i _ hi
    exact ⟨_, e1, PostE.here q S (hc ⟨p, o, rfl, (Gh.own hi rfl e1 r2).trans r1, C.mono Gh.ge r4⟩)⟩⟩
theorem de_ownL {T : Ty X.K α} {a : List α} {i : Nat} (hp : PE X e (tVar i)) (hi : ρ[i]? = some (some (.ow (cLst T) a))) : DE X J ρ e (tVar i) (rB (yLst T)) (.ok a) := de_own hp hi cLst_ty
/-- constants -/
theorem de_c {T : Ty X.K α} {a : α} {v : V} (hp : PE X e (tC v)) (h : ∀ F, T.rel a F v) : DE X J ρ e (tC v) (rP T) (.ok a) := ⟨hp, fun b F σ H Q S q => PostE.here q S (h F)⟩
end

/-! ### two values, one value -/
section
variable {α β γ : Type} {X : Cx} {J : Jc X.K ε} {ρ : Ev X.K} {e e' : Expr} {t t' : TE} {pos : Pos}
theorem Eval.op2 {J : Jc K ε} {μ ν : Md} {T : Ty K α} {U : Ty K β} {P : Rk K γ} {ρ : Ev K} {ta tb : TE} {ma : R ε α} {mb : R ε β} {r : R2} {f : α → β → R ε γ} (ha : Eval J ta ρ (rV μ T) ma) (hb : Eval J tb ρ (rV ν U) mb)
    (hr : ∀ (b : B) (F : Hp) (σ : St) (H : Hp) (x : α) (y : β) (v w : V) (Q : VK), Sta b ρ F σ H → T.rel x (μ.hp ρ σ F H) v → U.rel y (ν.hp ρ σ F H) w → PostE J b ρ P F σ H Q (f x y) → r v w H Q) :
    Eval J (tOp r ta tb) ρ P (ma.bind fun x => mb.bind fun y => f x y) := fun b F σ H Q S q =>
  ha.then_ S q fun x F1 v H1 g1 S1 r1 q1 => hb.then_ S1 q1 fun y F2 w H2 g2 S2 r2 q2 => hr b F2 σ H2 x y v w Q S2 (T.mono (Md.mono g2 S1 μ) r1) r2 q2
theorem Eval.op1 {J : Jc K ε} {μ : Md} {T : Ty K α} {P : Rk K γ} {ρ : Ev K} {ta : TE} {ma : R ε α} {r : V → Hp → VK → Prop} {f : α → R ε γ} (ha : Eval J ta ρ (rV μ T) ma)
    (hr : ∀ (b : B) (F : Hp) (σ : St) (H : Hp) (x : α) (v : V) (Q : VK), Sta b ρ F σ H → T.rel x (μ.hp ρ σ F H) v → PostE J b ρ P F σ H Q (f x) → r v H Q) :
    Eval J (tUn r ta) ρ P (ma.bind fun x => f x) := fun b F σ H Q S q => ha.then_ S q fun x F1 v H1 g1 S1 r1 q1 => hr b F1 σ H1 x v Q S1 r1 q1
/-- an operation of two ints -/
theorem de_i2 {op : Operator} {C : Int → Int → Prop} {g : Int → Int → V} {T : Ty X.K γ} {f : Int → Int → R ε γ} {ma mb : R ε Int} {μ ν : Md} (ho : OpR X (binaryOp op) (rI C g))
    (hf : ∀ i j, (∃ c, f i j = .ok c ∧ C i j ∧ ∀ F, T.rel c F (g i j)) ∨ f i j = .bad) (ha : DE X J ρ e t (rV μ yInt) ma) (hb : DE X J ρ e' t' (rV ν yInt) mb) :
    DE X J ρ (.BinOp e op e' pos) (tOp (rI C g) t t') (rP T) (ma.bind fun i => mb.bind fun j => f i j) :=
  ⟨pe_op ho ha.pe hb.pe, ha.ev.op2 hb.ev fun b F σ H x y v w Q S r1 r2 q => by
    cases r1; cases r2
    rcases hf x y with ⟨c, e1, e2, e3⟩ | e1
    · rw [e1] at q
      exact ⟨x, y, rfl, rfl, e2, PostE.here q S (e3 F)⟩
    · rw [e1] at q; exact q.elim⟩
theorem de_i20 {op : Operator} {g : Int → Int → Int} {ma mb : R ε Int} {μ ν : Md} (ho : OpR X (binaryOp op) (rI0 fun i j => .int (g i j))) (ha : DE X J ρ e t (rV μ yInt) ma) (hb : DE X J ρ e' t' (rV ν yInt) mb) :
    DE X J ρ (.BinOp e op e' pos) (tOp (rI0 fun i j => .int (g i j)) t t') (rP yInt) (ma.bind fun i => mb.bind fun j => .ok (g i j)) :=
  ⟨pe_op ho ha.pe hb.pe, ha.ev.op2 hb.ev fun b F σ H x y v w Q S r1 r2 q => by
    cases r1; cases r2
    exact ⟨x, y, rfl, rfl, PostE.here q S rfl⟩⟩
theorem de_add {ma mb : R ε Int} {μ ν : Md} (ha : DE X J ρ e t (rV μ yInt) ma) (hb : DE X J ρ e' t' (rV ν yInt) mb) : DE X J ρ (.BinOp e .Add e' pos) (tOp (rI0 fun i j => .int (i + j)) t t') (rP yInt) (ma.bind fun i => mb.bind fun j => .ok (i + j)) := de_i20 op_add ha hb
theorem de_sub {ma mb : R ε Int} {μ ν : Md} (ha : DE X J ρ e t (rV μ yInt) ma) (hb : DE X J ρ e' t' (rV ν yInt) mb) : DE X J ρ (.BinOp e .Sub e' pos) (tOp (rI0 fun i j => .int (i - j)) t t') (rP yInt) (ma.bind fun i => mb.bind fun j => .ok (i - j)) := de_i20 op_sub ha hb
/-- a product, one factor below 2^64 -/
def rMul (i j : Int) : R ε Int := if (-(2 ^ 64) < i ∧ i < 2 ^ 64) ∨ (-(2 ^ 64) < j ∧ j < 2 ^ 64) then .ok (i * j) else .bad
def rDiv (i j : Int) : R ε Int := if 0 < j ∧ j < 1073741824 then .ok (i / j) else .bad
def rMod (i j : Int) : R ε Int := if 0 < j then .ok (i % j) else .bad
def rPow (i j : Int) : R ε Int := if 0 ≤ j ∧ j ≤ 1000000 ∧ i.natAbs < 2 ^ 64 then .ok (i ^ j.toNat) else .bad
theorem if_or {p : Prop} [Decidable p] {c : γ} {T : Prop} (h : p → T) : (∃ d, (if p then (R.ok c : R ε γ) else .bad) = .ok d ∧ d = c ∧ T) ∨ (if p then (R.ok c : R ε γ) else .bad) = .bad := by
  by_cases hp : p
  · rw [if_pos hp]; exact .inl ⟨c, rfl, rfl, h hp⟩
  · rw [if_neg hp]; exact .inr rfl
theorem de_mul {ma mb : R ε Int} {μ ν : Md} (ha : DE X J ρ e t (rV μ yInt) ma) (hb : DE X J ρ e' t' (rV ν yInt) mb) : DE X J ρ (.BinOp e .Mult e' pos) (tOp (rI CMul fun i j => .int (i * j)) t t') (rP yInt) (ma.bind fun i => mb.bind fun j => rMul i j) :=
  de_i2 op_mul (fun i j => (if_or fun h => h).imp (fun ⟨d, e1, e2, e3⟩ => ⟨d, e1, e3, fun _ => by subst e2; rfl⟩) id) ha hb
theorem de_div {ma mb : R ε Int} {μ ν : Md} (ha : DE X J ρ e t (rV μ yInt) ma) (hb : DE X J ρ e' t' (rV ν yInt) mb) : DE X J ρ (.BinOp e .FloorDiv e' pos) (tOp (rI CDiv fun i j => .int (i / j)) t t') (rP yInt) (ma.bind fun i => mb.bind fun j => rDiv i j) :=
  de_i2 op_fdiv (fun i j => (if_or fun h => h).imp (fun ⟨d, e1, e2, e3⟩ => ⟨d, e1, e3, fun _ => by subst e2; rfl⟩) id) ha hb
theorem de_mod {ma mb : R ε Int} {μ ν : Md} (ha : DE X J ρ e t (rV μ yInt) ma) (hb : DE X J ρ e' t' (rV ν yInt) mb) : DE X J ρ (.BinOp e .Mod e' pos) (tOp (rI (fun _ j => 0 < j) fun i j => .int (i % j)) t t') (rP yInt) (ma.bind fun i => mb.bind fun j => rMod i j) :=
  de_i2 op_mod (fun i j => (if_or fun h => h).imp (fun ⟨d, e1, e2, e3⟩ => ⟨d, e1, e3, fun _ => by subst e2; rfl⟩) id) ha hb
theorem de_pow {ma mb : R ε Int} {μ ν : Md} (ha : DE X J ρ e t (rV μ yInt) ma) (hb : DE X J ρ e' t' (rV ν yInt) mb) : DE X J ρ (.BinOp e .Pow e' pos) (tOp (rI CPow fun i j => .int (i ^ j.toNat)) t t') (rP yInt) (ma.bind fun i => mb.bind fun j => rPow i j) :=
  de_i2 op_pow (fun i j => (if_or fun h => h).imp (fun ⟨d, e1, e2, e3⟩ => ⟨d, e1, e3, fun _ => by subst e2; rfl⟩) id) ha hb
theorem de_neg {ma : R ε Int} {μ : Md} (ha : DE X J ρ e t (rV μ yInt) ma) : DE X J ρ (.UnaryOp .USub e pos) (tUn (rU fun i => .int (-i)) t) (rP yInt) (ma.bind fun i => .ok (-i)) :=
  ⟨pe_un un_neg ha.pe, ha.ev.op1 fun b F σ H x v Q S r1 q => by cases r1; exact ⟨x, rfl, PostE.here q S rfl⟩⟩
/-- an expression that gives a bool, as a value and as a test -/
structure DQ (X : Cx) (J : Jc X.K ε) (ρ : Ev X.K) (e : Expr) (t : TE) (m : R ε Bool) : Prop where
  pe : PE X e t
  pt : PT X e (tTest t)
  ev : Eval J t ρ (rP yBl) m
theorem DQ.de {m : R ε Bool} (h : DQ X J ρ e t m) : DE X J ρ e t (rP yBl) m := ⟨h.pe, h.ev⟩
/-- comparisons as values and as tests -/
theorem dq_cmp {op : CmpOp} {r : R2} {T : Ty X.K α} {U : Ty X.K β} {ma : R ε α} {mb : R ε β} {f : α → β → R ε Bool} {μ ν : Md} (ho : OpR X (compareOp op) r) (hm : behindInMarks op e' = false) (ha : DE X J ρ e t (rV μ T) ma) (hb : DE X J ρ e' t' (rV ν U) mb)
    (hr : ∀ (b : B) (F : Hp) (σ : St) (H : Hp) (x : α) (y : β) (v w : V) (Q : VK), Sta b ρ F σ H → T.rel x (μ.hp ρ σ F H) v → U.rel y (ν.hp ρ σ F H) w → PostE J b ρ (rP yBl) F σ H Q (f x y) → r v w H Q) :
    DQ X J ρ (.Compare e [op] [e'] pos) (tOp r t t') (ma.bind fun x => mb.bind fun y => f x y) := ⟨pe_cmpR ho ha.pe hb.pe hm, pt_cmpR ho ha.pe hb.pe hm, ha.ev.op2 hb.ev hr⟩
/-- an expression that gives a bool, as a test -/
theorem EvalT.of {J : Jc K ε} {t : TE} {ρ : Ev K} {m : R ε Bool} (h : Eval J t ρ (rP yBl) m) : EvalT J (tTest t) ρ m := fun b F σ H Q S q => by
  refine h b F σ H _ S ?_
  cases m with
  | ok a => exact fun F' v H' g S' r => ⟨a, r, q F' H' g S'⟩
  | exn e => exact q
  | bad => exact q
theorem dt_val {m : R ε Bool} (h : DE X J ρ e t (rP yBl) m) (he : ∀ whole, isTrue e X.env whole = (do let v ← whole; standAt e.pos; holding [v] (truthy v)) := by intro _; rfl) : DT X J ρ e (tB t) m :=
  ⟨pt_val h.pe he, EvalT.of h.ev⟩
theorem DQ.dt {m : R ε Bool} (h : DQ X J ρ e t m) : DT X J ρ e (tTest t) m := ⟨h.pt, EvalT.of h.ev⟩
theorem dq_val {m : R ε Bool} (h : DE X J ρ e t (rP yBl) m) (he : ∀ whole, isTrue e X.env whole = (do let v ← whole; standAt e.pos; holding [v] (truthy v)) := by intro _; rfl) : DQ X J ρ e t m := ⟨h.pe, pt_val h.pe he, h.ev⟩
end
end Cp

/-! The data layer: statements, blocks, loops, defs. -/
namespace Cp
open PySem L2
variable {K : PySem.W.Frag} {ε : Type}

/-- what a block comes to -/
abbrev Rr := B → Hp → Hp → V → Prop
inductive Oc (K : PySem.W.Frag) : Type 1 where
  | nx (ρ : Ev K) | ct (ρ : Ev K) | nc (ρ : Ev K) | bk (ρ : Ev K) | rt (P : Rr) | no
def Oc.noNx : Oc K → Oc K
  | .nx _ => .no
  | .nc ρ => .ct ρ
  | o => o
/-- behind a loop: a break goes on -/
def Oc.unBk : Oc K → Oc K
  | .bk ρ => .nx ρ
  | .rt P => .rt P
  | _ => .no
def Oc.Post (b : B) (F : Hp) (D : Ends) : Oc K → Prop
  | .nx ρ => ∀ F' σ' H', Same F F' → Sta b ρ F' σ' H' → D.nx σ' H'
  | .ct ρ => ∀ F' σ' H', Same F F' → Sta b ρ F' σ' H' → D.ct σ' H'
  | .nc ρ => (∀ F' σ' H', Same F F' → Sta b ρ F' σ' H' → D.nx σ' H') ∧ ∀ F' σ' H', Same F F' → Sta b ρ F' σ' H' → D.ct σ' H'
  | .bk ρ => ∀ F' σ' H', Same F F' → Sta b ρ F' σ' H' → D.bk σ' H'
  | .rt P => ∀ F' v H', Same b.F0 F' → Same b.H0 H' → Same F' H' → Nw b F' → P b F' H' v → D.rt v H'
  | .no => False
section
variable (J : Jc K ε)
def PostS {τ : Type} (b : B) (F : Hp) (D : Ends) (I : τ → Oc K) : R ε τ → Prop
  | .ok a => (I a).Post b F D
  | .exn e => Pex J b e
  | .bad => False
def EvalS {τ : Type} (t : TS) (ρ : Ev K) (I : τ → Oc K) (m : R ε τ) : Prop := ∀ (b : B) (F : Hp) (σ : St) (H : Hp) (D : Ends), Sta b ρ F σ H → PostS J b F D I m → t D σ H
structure DS1 {τ : Type} (X : Cx) (J : Jc X.K ε) (ρ : Ev X.K) (st : Stmt) (t : TS) (I : τ → Oc X.K) (m : R ε τ) : Prop where
  ps : PS X st t
  ev : EvalS J t ρ I m
structure DS {τ : Type} (X : Cx) (J : Jc X.K ε) (ρ : Ev X.K) (sts : List Stmt) (t : TS) (I : τ → Oc X.K) (m : R ε τ) : Prop where
  ps : PSs X sts t
  ev : EvalS J t ρ I m
end
section
variable {J : Jc K ε} {α β γ τ τ' : Type} {b : B} {ρ ρ' : Ev K} {F F' : Hp} {σ : St} {H H' : Hp} {D : Ends} {I : τ → Oc K}
theorem Oc.Post.later {o : Oc K} (f : Same F F') (h : o.Post b F D) : o.Post b F' D := by
  cases o with
  | nx ρ => exact fun F'' σ' H' g => h F'' σ' H' (f.trans g)
  | ct ρ => exact fun F'' σ' H' g => h F'' σ' H' (f.trans g)
  | nc ρ => exact ⟨fun F'' σ' H' g => h.1 F'' σ' H' (f.trans g), fun F'' σ' H' g => h.2 F'' σ' H' (f.trans g)⟩
  | bk ρ => exact fun F'' σ' H' g => h F'' σ' H' (f.trans g)
  | rt P => exact h
  | no => exact h
theorem PostS.later {m : R ε τ} (f : Same F F') (h : PostS J b F D I m) : PostS J b F' D I m := by
  cases m with
  | ok a => exact Oc.Post.later f h
  | exn e => exact h
  | bad => exact h
theorem Eval.thenS {t : TE} {P' : Rk K β} {m : R ε β} {k : β → R ε τ} {R' : VK} (h : Eval J t ρ P' m) (S : Sta b ρ F σ H) (q : PostS J b F D I (m.bind k))
    (hk : ∀ a F' v H', Gr F H F' H' → Sta b ρ F' σ H' → P'.at_ ρ σ H F' H' a v → PostS J b F' D I (k a) → R' v H') : t σ H R' := by
  refine h b F σ H R' S ?_
  cases m with
  | ok a => exact fun F' v H' g S' r => hk a F' v H' g S' r (PostS.later g.f q)
  | exn e => exact q
  | bad => exact q
theorem EvalT.thenS {t : TT} {m : R ε Bool} {k : Bool → R ε τ} {R' : Bool → Hp → Prop} (h : EvalT J t ρ m) (S : Sta b ρ F σ H) (q : PostS J b F D I (m.bind k))
    (hk : ∀ a F' H', Gr F H F' H' → Sta b ρ F' σ H' → PostS J b F' D I (k a) → R' a H') : t σ H R' := by
  refine h b F σ H R' S ?_
  cases m with
  | ok a => exact fun F' H' g S' => hk a F' H' g S' (PostS.later g.f q)
  | exn e => exact q
  | bad => exact q
end

/-! ### ends of blocks -/
section
variable {α β γ τ τ' : Type} {X : Cx} {J : Jc X.K ε} {ρ ρ' : Ev X.K} {I : τ → Oc X.K} {pos : Pos} {st : Stmt} {rest : List Stmt} {t u : TS}
theorem ds_nil {c : τ} (hI : I c = .nx ρ' ∨ I c = .nc ρ') (w : Wk ρ ρ') : DS X J ρ [] tNext I (.ok c) :=
  ⟨pss_nil, fun b F σ H D S q => by
    have q : (I c).Post b F D := q
    rcases hI with e | e
    · rw [e] at q; exact q F σ H (Same.refl _) (S.wk w)
    · rw [e] at q; exact q.1 F σ H (Same.refl _) (S.wk w)⟩
theorem ds_pass {c : τ} (hI : I c = .nx ρ' ∨ I c = .nc ρ') (w : Wk ρ ρ') : DS1 X J ρ (.Pass pos) tNext I (.ok c) := ⟨ps_pass, (ds_nil hI w).ev⟩
theorem ds_cont {c : τ} (hI : I c = .ct ρ' ∨ I c = .nc ρ') (w : Wk ρ ρ') : DS1 X J ρ (.Continue pos) tCont I (.ok c) :=
  ⟨ps_continue, fun b F σ H D S q => by
    have q : (I c).Post b F D := q
    rcases hI with e | e
    · rw [e] at q; exact q F σ H (Same.refl _) (S.wk w)
    · rw [e] at q; exact q.2 F σ H (Same.refl _) (S.wk w)⟩
theorem ds_break {c : τ} (hI : I c = .bk ρ') (w : Wk ρ ρ') : DS1 X J ρ (.Break pos) tBreak I (.ok c) :=
  ⟨ps_break, fun b F σ H D S q => by
    have q : (I c).Post b F D := q
    rw [hI] at q; exact q F σ H (Same.refl _) (S.wk w)⟩
def qP {α : Type} (T : Ty K α) (a : α) : Rr := fun _ F _ v => T.rel a F v
def qF {α : Type} (C : Ct K α) (a : α) : Rr := fun b F H v => ∃ p o, v = .ref p ∧ H p = some o ∧ F p = none ∧ b.H0 p = none ∧ C.obj a F p o
theorem ds_ret {e : Expr} {te : TE} {T : Ty X.K α} {m : R ε α} {f : α → τ} (h : DE X J ρ e te (rP T) m) (hI : ∀ a, I (f a) = .rt (qP T a)) : DS1 X J ρ (.Return (some e) pos) (tRet te) I (m.bind fun a => .ok (f a)) :=
  ⟨ps_ret h.pe, fun b F σ H D S q => h.ev.thenS S q fun a F' v H' g S' r q' => by
    have q' : (I (f a)).Post b F' D := q'
    rw [hI] at q'
    exact q' F' v H' S'.f0 S'.h0 S'.fh S'.nw r⟩
theorem ds_retF {e : Expr} {te : TE} {C : Ct X.K α} {m : R ε α} {f : α → τ} (h : DE X J ρ e te (rF C) m) (hI : ∀ a, I (f a) = .rt (qF C a)) : DS1 X J ρ (.Return (some e) pos) (tRet te) I (m.bind fun a => .ok (f a)) :=
  ⟨ps_ret h.pe, fun b F σ H D S q => h.ev.thenS S q fun a F' v H' g S' r q' => by
    have q' : (I (f a)).Post b F' D := q'
    rw [hI] at q'
    obtain ⟨p, o, rfl, n, hp, fp, r⟩ := r
    exact q' F' _ H' S'.f0 S'.h0 S'.fh S'.nw ⟨p, o, rfl, hp, fp, S.h0.free n, r⟩⟩
/-- an own object is handed back -/
theorem ds_retO {e : Expr} {C : Ct X.K α} {a : α} {i : Nat} {c : τ} (hp : PE X e (tVar i)) (hi : ρ[i]? = some (some (.ow C a))) (hI : I c = .rt (qF C a)) : DS1 X J ρ (.Return (some e) pos) (tRet (tVar i)) I (.ok c) :=
  ⟨ps_ret hp, fun b F σ H D S q => by
    have q : (I c).Post b F D := q
    rw [hI] at q
    obtain ⟨v, e1, p, o, rfl, r1, r2, r3, r4⟩ := S.sl i _ hi
    exact ⟨_, e1, q F _ H S.f0 S.h0 S.fh S.nw ⟨p, o, rfl, r1, r2, r3, r4⟩⟩⟩
theorem ds_retN {c : τ} (hI : I c = .rt (qP (yNon (K := X.K)) ())) : DS1 X J ρ (.Return none pos) tRetN I (.ok c) :=
  ⟨ps_retN, fun b F σ H D S q => by
    have q : (I c).Post b F D := q
    rw [hI] at q
    exact q F _ H S.f0 S.h0 S.fh S.nw rfl⟩

/-! ### one after another -/
theorem ds_one {m : R ε τ} (h : DS1 X J ρ st t I m) : DS X J ρ [st] t I m := ⟨pss_one h.ps, h.ev⟩
/-- a statement that goes on in one way -/
theorem ds_cons [Inhabited α] {ρ1 : α → Ev X.K} {m : R ε α} {k : α → R ε τ} (h : DS1 X J ρ st t (fun a => .nx (ρ1 a)) m) (hr : ∀ a, DS X J (ρ1 a) rest u I (k a)) : DS X J ρ (st :: rest) (tSeq t u) I (m.bind k) :=
  ⟨pss_cons h.ps (hr default).ps, fun b F σ H D S q => h.ev b F σ H _ S (by
    cases m with
    | ok a => exact fun F' σ' H' f S' => (hr a).ev b F' σ' H' D S' (PostS.later f q)
    | exn e => exact q
    | bad => exact q)⟩
/-- a statement that goes on, or leaves -/
def Oc.isNx : Oc K → Bool
  | .nx _ => true
  | _ => false
def ocX {s θ : Type} (eH : s → Ev K) (Z : θ → Oc K) : s ⊕ θ → Oc K
  | .inl a => .nx (eH a)
  | .inr c => Z c
theorem ds_seq [Inhabited α] {ρ1 : α → Ev X.K} {Z : β → Oc X.K} {m : R ε (α ⊕ β)} {f : β → τ} {k : α → R ε τ} (h : DS1 X J ρ st t (ocX ρ1 Z) m) (hr : ∀ a, DS X J (ρ1 a) rest u I (k a)) (hJ : ∀ c, Z c = (I (f c)).noNx ∧ (I (f c)).isNx = false) :
    DS X J ρ (st :: rest) (tSeq t u) I (m.bind fun a => match a with | .inl a => k a | .inr c => .ok (f c)) :=
  ⟨pss_cons h.ps (hr default).ps, fun b F σ H D S q => h.ev b F σ H _ S (by
    cases m with
    | ok a =>
      cases a with
      | inl a => exact fun F' σ' H' g S' => (hr a).ev b F' σ' H' D S' (PostS.later g q)
      | inr c =>
        have q : (I (f c)).Post b F D := q
        obtain ⟨e1, e2⟩ := hJ c
        show (Z c).Post b F _
        rw [e1]
        revert q e2
        generalize I (f c) = o
        intro q e2
        cases o with
        | nx ρ => cases e2
        | ct ρ => exact q
        | nc ρ => exact q.2
        | bk ρ => exact q
        | rt P => exact q
        | no => exact q
    | exn e => exact q
    | bad => exact q)⟩
theorem EvalS.map {J : Jc K ε} {I' : τ' → Oc K} {I : τ → Oc K} {ρ : Ev K} {g : τ → τ'} {m : R ε τ} (h : EvalS J t ρ I m) (hg : ∀ a, I' (g a) = I a) : EvalS J t ρ I' (m.bind fun a => .ok (g a)) := fun b F σ H D S q => h b F σ H D S (by
  cases m with
  | ok a =>
    have q : (I' (g a)).Post b F D := q
    rw [hg] at q; exact q
  | exn e => exact q
  | bad => exact q)
theorem EvalS.unmap {J : Jc K ε} {I' : τ' → Oc K} {I : τ → Oc K} {ρ : Ev K} {g : τ → τ'} {m : R ε τ} (h : EvalS J t ρ I' (m.bind fun a => .ok (g a))) (hg : ∀ a, I' (g a) = I a) : EvalS J t ρ I m := fun b F σ H D S q => h b F σ H D S (by
  cases m with
  | ok a =>
    show (I' (g a)).Post b F D
    rw [hg]; exact q
  | exn e => exact q
  | bad => exact q)
/-! ### if -/
theorem ds_if1 {c : Expr} {tc : TT} {sa sb : List Stmt} {ta tb : TS} {mc : R ε Bool} {m1 m2 : R ε τ} (hc : DT X J ρ c tc mc) (ha : DS X J ρ sa ta I m1) (hb : DS X J ρ sb tb I m2) :
    DS1 X J ρ (.If c sa sb pos) (tIfS tc ta tb) I (mc.bind fun c => if c then m1 else m2) :=
  ⟨ps_if hc.pt ha.ps hb.ps, fun b F σ H D S q => hc.ev.thenS S q fun c F' H' g S' q' => by
    cases c with
    | true => rw [if_pos rfl] at q' ⊢; exact ha.ev b F' σ H' D S' q'
    | false => rw [if_neg Bool.false_ne_true] at q' ⊢; exact hb.ev b F' σ H' D S' q'⟩
/-- the first branch leaves, the rest stands behind -/
theorem Oc.Post.noNx {o : Oc K} {b : B} {F : Hp} {D : Ends} {N : St → Hp → Prop} (e : o.isNx = false) (q : o.Post b F D) : o.noNx.Post b F { D with nx := N } := by
  cases o with
  | nx ρ => cases e
  | ct ρ => exact q
  | nc ρ => exact q.2
  | bk ρ => exact q
  | rt P => exact q
  | no => exact q
theorem ds_iftX {θ : Type} {c : Expr} {tc : TT} {sa : List Stmt} {ta : TS} {mc : R ε Bool} {m1 : R ε θ} {m2 : R ε τ} {f : θ → τ} (hc : DT X J ρ c tc mc) (ha : DS X J ρ sa ta (fun a => (I (f a)).noNx) m1) (hn : ∀ a, (I (f a)).isNx = false) (hr : DS X J ρ rest u I m2) :
    DS X J ρ (.If c sa [] pos :: rest) (tSeq (tIfS tc ta tNext) u) I (mc.bind fun c => if c then m1.bind fun a => .ok (f a) else m2) :=
  ⟨pss_cons (ps_if hc.pt ha.ps pss_nil) hr.ps, fun b F σ H D S q => hc.ev.thenS S q fun c F' H' g S' q' => by
    cases c with
    | true =>
      rw [if_pos rfl] at q' ⊢
      refine ha.ev b F' σ H' _ S' ?_
      cases m1 with
      | ok a => exact Oc.Post.noNx (hn a) q'
      | exn e => exact q'
      | bad => exact q'
    | false => rw [if_neg Bool.false_ne_true] at q' ⊢; exact hr.ev b F' σ H' D S' q'⟩
theorem ds_ift {c : Expr} {tc : TT} {sa : List Stmt} {ta : TS} {mc : R ε Bool} {m1 m2 : R ε τ} (hc : DT X J ρ c tc mc) (ha : DS X J ρ sa ta (fun a => (I a).noNx) m1) (hn : ∀ a, (I a).isNx = false) (hr : DS X J ρ rest u I m2) :
    DS X J ρ (.If c sa [] pos :: rest) (tSeq (tIfS tc ta tNext) u) I (mc.bind fun c => if c then m1 else m2) := by
  have h := ds_iftX (f := id) (pos := pos) hc ha hn hr
  rw [show (m1.bind fun a => R.ok (id a)) = m1 from bindok m1] at h
  exact h

/-! ### what a loop walks -/
def Walks (Jt : It) (T : Ty K α) (l : List α) (F0 : Hp) : Prop := ∀ (i : Nat) (F H : Hp), Same F0 F → Same F H →
  (∀ h : i < l.length, Jt.go i H ∧ ∀ x H', Jt.yld i H x H' → ∃ F', Gr F H F' H' ∧ Same F' H' ∧ T.rel (l[i]) F' x) ∧ (l.length ≤ i → Jt.stop i H)
section
variable (J : Jc K ε)
def PostI (b : B) (ρ : Ev K) (T : Ty K α) (F : Hp) (σ : St) (H : Hp) (Q : It → Hp → Prop) : R ε (List α) → Prop
  | .ok l => ∀ F' H' Jt, Gr F H F' H' → Sta b ρ F' σ H' → Walks Jt T l F' → Q Jt H'
  | .exn e => Pex J b e
  | .bad => False
def EvalI (wi : TI) (ρ : Ev K) (T : Ty K α) (m : R ε (List α)) : Prop := ∀ (b : B) (F : Hp) (σ : St) (H : Hp) (Q : It → Hp → Prop), Sta b ρ F σ H → PostI J b ρ T F σ H Q m → wi σ H Q
structure DI (X : Cx) (J : Jc X.K ε) (ρ : Ev X.K) (tg iter : Expr) (wi : TI) (T : Ty X.K α) (m : R ε (List α)) : Prop where
  pi : PI X tg iter wi
  ev : EvalI J wi ρ T m
  fs : ∀ x, foldedSetIterable iter X.env x = pure x
end
/-- where an item goes -/
structure DG (X : Cx) (ρ : Ev X.K) (tg : Expr) (g : TG) (T : Ty X.K α) (ρ' : α → Ev X.K) (ix : List Nat) : Prop where
  pg : PG X tg g
  ev : ∀ (b : B) (F : Hp) (σ : St) (H : Hp) (v : V) (a : α) (Q : St → Hp → Prop), Sta b ρ F σ H → T.rel a F v → (∀ σ', σ'.length = σ.length → (∀ j, j ∉ ix → σ'[j]? = σ[j]?) → Sta b (ρ' a) F σ' H → Q σ' H) → g v σ H Q
  kp : ∀ (a : α) (j : Nat), j ∉ ix → (ρ' a)[j]? = ρ[j]?
  pl : ∀ (a : α) (j : Nat) (s : Slt X.K), j ∈ ix → (ρ' a)[j]? = some (some s) → s.isOw = false
theorem kp_seq {ρ ρ1 ρ2 : Ev K} {ix ix' : List Nat} (h : ∀ j, j ∉ ix → ρ1[j]? = ρ[j]?) (h' : ∀ j, j ∉ ix' → ρ2[j]? = ρ1[j]?) : ∀ j, j ∉ ix ++ ix' → ρ2[j]? = ρ[j]? := fun j hj => (h' j fun z => hj (List.mem_append_right _ z)).trans (h j fun z => hj (List.mem_append_left _ z))
theorem pl_seq {ρ1 ρ2 : Ev K} {ix ix' : List Nat} (h : ∀ (j : Nat) (s : Slt K), j ∈ ix → ρ1[j]? = some (some s) → s.isOw = false) (k' : ∀ j, j ∉ ix' → ρ2[j]? = ρ1[j]?) (h' : ∀ (j : Nat) (s : Slt K), j ∈ ix' → ρ2[j]? = some (some s) → s.isOw = false) : ∀ (j : Nat) (s : Slt K), j ∈ ix ++ ix' → ρ2[j]? = some (some s) → s.isOw = false := fun j s hj e => by
  by_cases z : j ∈ ix'
  · exact h' j s z e
  · rcases List.mem_append.mp hj with q | q
    · exact h j s q ((k' j z).symm.trans e)
    · exact (z q).elim
theorem dg_name {tg : Expr} {i : Nat} {T : Ty X.K α} (h : PG X tg (gName i)) : DG X ρ tg (gName i) T (fun a => ρ.set i (some (.pl T a))) [i] :=
  ⟨h, fun b F σ H v a Q S r q => q _ (List.length_set ..) (fun j hj => List.getElem?_set_ne (fun e => hj (by rw [e]; exact List.mem_singleton.mpr rfl))) (S.setP r), fun a j hj => List.getElem?_set_ne fun e => hj (by rw [e]; exact List.mem_singleton.mpr rfl), fun a j s hj e => by
    rcases getset e with ⟨_, q⟩ | ⟨n, _⟩
    · cases q; rfl
    · exact (n (List.mem_singleton.mp hj)).elim⟩

/-! ### for -/
inductive Lp (s θ : Type) where
  | next (a : s) | brk (a : s) | exit (c : θ)
def forL {s θ : Type} (f : α → s → R ε (Lp s θ)) : List α → s → R ε (s ⊕ θ)
  | [], a => .ok (.inl a)
  | x :: l, a => (f x a).bind fun
    | .next a' => forL f l a'
    | .brk a' => .ok (.inl a')
    | .exit c => .ok (.inr c)
/-- a statement that goes on or leaves; a turn; a turn that may break -/
def ocN {s θ : Type} (eH : s → Ev K) (Z : θ → Oc K) : s ⊕ θ → Oc K
  | .inl a => .nc (eH a)
  | .inr c => Z c
def ocB {s : Type} (eH : s → Ev K) : s ⊕ s → Oc K
  | .inl a => .nc (eH a)
  | .inr a => .bk (eH a)
def zE : Empty → Oc K := fun c => nomatch c
def Lp.oc {s θ : Type} (eH : s → Ev K) (Z : θ → Oc K) : Lp s θ → Oc K
  | .next a => .nc (eH a)
  | .brk a => .bk (eH a)
  | .exit c => (Z c).noNx
def Oc.noBk : Oc K → Oc K
  | .rt P => .rt P
  | _ => .no
theorem ds_for {s θ : Type} [Inhabited s] [Inhabited α] {tg iter : Expr} {wi : TI} {T : Ty X.K α} {g : TG} {tb : TS} {body : List Stmt} {ml : R ε (List α)} {eH : s → Ev X.K} {eB : s → α → Ev X.K} {ix : List Nat} {Z : θ → Oc X.K} {f : α → s → R ε (Lp s θ)} {a0 : s}
    (hp : PassesOwn (model X.prog X.w) X.A X.env X.xe) (hc : X.calm = true) (hi : DI X J ρ tg iter wi T ml) (w : Wk ρ (eH a0)) (hg : ∀ a, DG X (eH a) tg g T (eB a) ix) (hJ : ∀ c, ∃ P, Z c = .rt P)
    (hb : ∀ a x, DS X J (eB a x) body tb (Lp.oc eH Z) (f x a)) :
    DS1 X J ρ (.For tg iter body [] pos) (tFor wi g tb) (ocX eH Z) (ml.bind fun l => forL f l a0) :=
  ⟨ps_for hp hc hi.pi (hg default).pg (hb default default).ps hi.fs, fun b F σ H D S q => hi.ev b F σ H _ S (by
    cases ml with
    | exn e => exact q
    | bad => exact q
    | ok l =>
      intro F1 H1 It1 g1 S1 wk
      have q1 := PostS.later g1.f q
      have q1 : PostS J b F1 D _ (forL f l a0) := q1
      clear q S
      -- the invariant: behind i items the state is a
      refine ⟨fun i m σ H => m = l.length - i ∧ i ≤ l.length ∧ ∃ F a, Same F1 F ∧ Sta b (eH a) F σ H ∧ PostS J b F D (ocX eH Z) (forL f (l.drop i) a), ⟨_, rfl, Nat.zero_le _, F1, a0, Same.refl _, S1.wk w, q1⟩, ?_⟩
      rintro i m σ2 H2 ⟨rfl, hil, F2, a, sf, S2, q2⟩
      obtain ⟨wgo, wst⟩ := wk i F2 H2 sf S2.fh
      by_cases hlt : i < l.length
      · obtain ⟨go, yld⟩ := wgo hlt
        rw [List.drop_eq_getElem_cons hlt] at q2
        refine .inr ⟨go, fun σ' H' => ∃ F' a', Same F1 F' ∧ Sta b (eH a') F' σ' H' ∧ PostS J b F' D (ocX eH Z) (forL f (l.drop (i + 1)) a'), fun σ' H' ⟨F', a', h1, h2, h3⟩ => ⟨l.length - (i + 1), by omega, rfl, hlt, F', a', h1, h2, h3⟩, fun x H' y => ?_⟩
        obtain ⟨F3, g3, fh3, r3⟩ := yld x H' y
        have S3 := g3.sta S2 fh3
        have q3 := PostS.later g3.f q2
        refine (hg a).ev b F3 σ2 H' x _ _ S3 r3 fun σ4 _ _ S4 => ?_
        refine (hb a _).ev b F3 σ4 H' _ S4 ?_
        unfold forL at q3
        revert q3
        generalize f l[i] a = mf
        intro q3
        cases mf with
        | exn e => exact q3
        | bad => exact q3
        | ok r =>
          cases r with
          | next a' => exact ⟨fun F' σ' H' sf' S' => ⟨F', a', (sf.trans g3.f).trans sf', S', PostS.later sf' q3⟩, fun F' σ' H' sf' S' => ⟨F', a', (sf.trans g3.f).trans sf', S', PostS.later sf' q3⟩⟩
          | brk a' => exact q3
          | exit c =>
            obtain ⟨P, hP⟩ := hJ c
            have q3 : (Z c).Post b F3 D := q3
            show (Z c).noNx.Post b F3 _
            rw [hP] at q3 ⊢
            exact q3
      · have e : i = l.length := by omega
        subst e
        rw [List.drop_length] at q2
        refine .inl ⟨wst (Nat.le_refl _), ?_⟩
        exact q2 F2 σ2 H2 (Same.refl _) S2)⟩
end
end Cp

/-! The data layer: loops in their simple forms, while, defs and calls. -/
namespace Cp
open PySem PySem.Spec L2
open PyProof.Rows hiding St
variable {K : PySem.W.Frag} {ε : Type}
section
variable {α β γ τ τ' s θ : Type} {X : Cx} {J : Jc X.K ε} {ρ ρ' : Ev X.K} {I : τ → Oc X.K} {pos : Pos} {st : Stmt} {rest : List Stmt} {t u : TS}
theorem DS.map {I' : τ' → Oc X.K} {I : τ → Oc X.K} {sts : List Stmt} {g : τ → τ'} {m : R ε τ} (h : DS X J ρ sts t I m) (hg : ∀ a, I' (g a) = I a) : DS X J ρ sts t I' (m.bind fun a => .ok (g a)) := ⟨h.ps, EvalS.map h.ev hg⟩
theorem DS.cast {sts : List Stmt} {m m' : R ε τ} (h : DS X J ρ sts t I m) (e : m = m') : DS X J ρ sts t I m' := e ▸ h
theorem DS1.cast {m m' : R ε τ} (h : DS1 X J ρ st t I m) (e : m = m') : DS1 X J ρ st t I m' := e ▸ h
/-- a loop that goes through -/
def forS (f : α → s → R ε s) : List α → s → R ε s
  | [], a => .ok a
  | x :: l, a => (f x a).bind fun a' => forS f l a'
/-- a loop that may break -/
def forB (f : α → s → R ε (s ⊕ s)) : List α → s → R ε s
  | [], a => .ok a
  | x :: l, a => (f x a).bind fun
    | .inl a' => forB f l a'
    | .inr a' => .ok a'
/-- a loop that may leave the def -/
def forX (f : α → s → R ε (s ⊕ θ)) : List α → s → R ε (s ⊕ θ)
  | [], a => .ok (.inl a)
  | x :: l, a => (f x a).bind fun
    | .inl a' => forX f l a'
    | .inr c => .ok (.inr c)
theorem forS_L (f : α → s → R ε s) : ∀ (l : List α) (a : s), (forL (θ := Empty) (fun x a => (f x a).bind fun a => .ok (.next a)) l a) = (forS f l a).bind fun a => .ok (.inl a)
  | [], a => rfl
  | x :: l, a => by
    unfold forL forS
    cases f x a with
    | ok a' => exact forS_L f l a'
    | exn e => rfl
    | bad => rfl
def b2L : s ⊕ s → Lp s Empty
  | .inl a => .next a
  | .inr a => .brk a
theorem forB_L (f : α → s → R ε (s ⊕ s)) : ∀ (l : List α) (a : s), (forL (θ := Empty) (fun x a => (f x a).bind fun a => .ok (b2L a)) l a) = (forB f l a).bind fun a => .ok (.inl a)
  | [], a => rfl
  | x :: l, a => by
    unfold forL forB
    cases f x a with
    | ok a' =>
      cases a' with
      | inl a' => exact forB_L f l a'
      | inr a' => rfl
    | exn e => rfl
    | bad => rfl
def x2L : s ⊕ θ → Lp s θ
  | .inl a => .next a
  | .inr a => .exit a
theorem forX_L (f : α → s → R ε (s ⊕ θ)) : ∀ (l : List α) (a : s), (forL (θ := θ) (fun x a => (f x a).bind fun a => .ok (x2L a)) l a) = forX f l a
  | [], a => rfl
  | x :: l, a => by
    unfold forL forX
    cases f x a with
    | ok a' =>
      cases a' with
      | inl a' => exact forX_L f l a'
      | inr a' => rfl
    | exn e => rfl
    | bad => rfl
variable {tg iter : Expr} {wi : TI} {T : Ty X.K α} {g : TG} {tb : TS} {body : List Stmt} {ml : R ε (List α)} {eH : s → Ev X.K} {eB : s → α → Ev X.K} {a0 : s} {ix : List Nat}
theorem ds_forS [Inhabited s] [Inhabited α] {f : α → s → R ε s} (hp : PassesOwn (model X.prog X.w) X.A X.env X.xe) (hc : X.calm = true) (hi : DI X J ρ tg iter wi T ml) (w : Wk ρ (eH a0)) (hg : ∀ a, DG X (eH a) tg g T (eB a) ix)
    (hb : ∀ a x, DS X J (eB a x) body tb (fun a => .nc (eH a)) (f x a)) : DS1 X J ρ (.For tg iter body [] pos) (tFor wi g tb) (fun a => .nx (eH a)) (ml.bind fun l => forS f l a0) := by
  have h := ds_for (θ := Empty) (Z := zE) (pos := pos) (f := fun x a => (f x a).bind fun a => .ok (.next a)) hp hc hi w hg (fun c => nomatch c) (fun a x => (hb a x).map (I' := Lp.oc eH _) (g := Lp.next) fun a => rfl)
  refine ⟨h.ps, EvalS.unmap (I' := ocX eH zE) (g := Sum.inl) ?_ fun a => rfl⟩
  have e : ((ml.bind fun l => forS f l a0).bind fun a => R.ok (Sum.inl a)) = ml.bind fun l => forL (θ := Empty) (fun x a => (f x a).bind fun a => .ok (.next a)) l a0 := by
    cases ml with
    | ok l => exact (forS_L f l a0).symm
    | exn e => rfl
    | bad => rfl
  rw [e]
  exact h.ev
theorem ds_forB [Inhabited s] [Inhabited α] {f : α → s → R ε (s ⊕ s)} (hp : PassesOwn (model X.prog X.w) X.A X.env X.xe) (hc : X.calm = true) (hi : DI X J ρ tg iter wi T ml) (w : Wk ρ (eH a0)) (hg : ∀ a, DG X (eH a) tg g T (eB a) ix)
    (hb : ∀ a x, DS X J (eB a x) body tb (ocB eH) (f x a)) : DS1 X J ρ (.For tg iter body [] pos) (tFor wi g tb) (fun a => .nx (eH a)) (ml.bind fun l => forB f l a0) := by
  have h := ds_for (θ := Empty) (Z := zE) (pos := pos) (f := fun x a => (f x a).bind fun a => .ok (b2L a)) hp hc hi w hg (fun c => nomatch c) (fun a x => (hb a x).map (I' := Lp.oc eH _) (g := b2L) fun a => by cases a <;> rfl)
  refine ⟨h.ps, EvalS.unmap (I' := ocX eH zE) (g := Sum.inl) ?_ fun a => rfl⟩
  have e : ((ml.bind fun l => forB f l a0).bind fun a => R.ok (Sum.inl a)) = ml.bind fun l => forL (θ := Empty) (fun x a => (f x a).bind fun a => .ok (b2L a)) l a0 := by
    cases ml with
    | ok l => exact (forB_L f l a0).symm
    | exn e => rfl
    | bad => rfl
  rw [e]
  exact h.ev
theorem ds_forX [Inhabited s] [Inhabited α] {Z : θ → Oc X.K} {f : α → s → R ε (s ⊕ θ)} (hp : PassesOwn (model X.prog X.w) X.A X.env X.xe) (hc : X.calm = true) (hi : DI X J ρ tg iter wi T ml) (w : Wk ρ (eH a0)) (hg : ∀ a, DG X (eH a) tg g T (eB a) ix) (hZ : ∀ c, ∃ P, Z c = .rt P)
    (hb : ∀ a x, DS X J (eB a x) body tb (ocN eH Z) (f x a)) : DS1 X J ρ (.For tg iter body [] pos) (tFor wi g tb) (ocX eH Z) (ml.bind fun l => forX f l a0) := by
  have h := ds_for (Z := Z) (pos := pos) (f := fun x a => (f x a).bind fun a => .ok (x2L a)) hp hc hi w hg hZ (fun a x => (hb a x).map (I' := Lp.oc eH _) (g := x2L) fun a => by
    cases a with
    | inl a => rfl
    | inr c =>
      obtain ⟨P, e⟩ := hZ c
      show (Z c).noNx = Z c
      rw [e]; rfl)
  have e : (ml.bind fun l => forX f l a0) = ml.bind fun l => forL (fun x a => (f x a).bind fun a => .ok (x2L a)) l a0 := by
    cases ml with
    | ok l => exact (forX_L f l a0).symm
    | exn e => rfl
    | bad => rfl
  rw [e]
  exact h

/-! ### while -/
def whileL (c : s → R ε Bool) (f : s → R ε (Lp s θ)) : Nat → s → R ε (s ⊕ θ)
  | 0, _ => .bad
  | n + 1, a => (c a).bind fun b => if b then (f a).bind fun
      | .next a' => whileL c f n a'
      | .brk a' => .ok (.inl a')
      | .exit r => .ok (.inr r)
    else .ok (.inl a)
theorem ds_while [Inhabited s] {cond : Expr} {tc : TT} {Z : θ → Oc X.K} {c : s → R ε Bool} {f : s → R ε (Lp s θ)} (n : Nat) (hp : PassesOwn (model X.prog X.w) X.A X.env X.xe) (w : Wk ρ (eH a0)) (hZ : ∀ c, ∃ P, Z c = .rt P)
    (hc : ∀ a, DT X J (eH a) cond tc (c a)) (hb : ∀ a, DS X J (eH a) body tb (Lp.oc eH Z) (f a)) :
    DS1 X J ρ (.While cond body [] pos) (tWhile tc tb) (ocX eH Z) (whileL c f n a0) :=
  ⟨ps_while hp (hc default).pt (hb default).ps, fun b F σ H D S q => by
    refine ⟨fun m σ H => ∃ F' a, Same F F' ∧ Sta b (eH a) F' σ H ∧ PostS J b F' D (ocX eH Z) (whileL c f m a), ⟨n, F, a0, Same.refl _, S.wk w, q⟩, ?_⟩
    rintro m σ2 H2 ⟨F2, a, sf, S2, q2⟩
    cases m with
    | zero => exact q2.elim
    | succ m =>
      unfold whileL at q2
      refine (hc a).ev.thenS S2 q2 fun cb F3 H3 g3 S3 q3 => ?_
      cases cb with
      | false =>
        rw [if_neg Bool.false_ne_true] at q3 ⊢
        exact q3 F3 σ2 H3 (Same.refl _) S3
      | true =>
        rw [if_pos rfl] at q3 ⊢
        refine ⟨fun σ' H' => ∃ F' a', Same F F' ∧ Sta b (eH a') F' σ' H' ∧ PostS J b F' D (ocX eH Z) (whileL c f m a'), fun σ' H' h => ⟨m, Nat.lt_succ_self m, h⟩, ?_⟩
        refine (hb a).ev b F3 σ2 H3 _ S3 ?_
        revert q3
        generalize f a = mf
        intro q3
        cases mf with
        | exn e => exact q3
        | bad => exact q3
        | ok r =>
          cases r with
          | next a' => exact ⟨fun F' σ' H' sf' S' => ⟨F', a', (sf.trans g3.f).trans sf', S', PostS.later sf' q3⟩, fun F' σ' H' sf' S' => ⟨F', a', (sf.trans g3.f).trans sf', S', PostS.later sf' q3⟩⟩
          | brk a' => exact q3
          | exit c =>
            obtain ⟨P, hP⟩ := hZ c
            have q3 : (Z c).Post b F3 D := q3
            show (Z c).noNx.Post b F3 _
            rw [hP] at q3 ⊢
            exact q3⟩
def whileS (c : s → R ε Bool) (f : s → R ε s) : Nat → s → R ε s
  | 0, _ => .bad
  | n + 1, a => (c a).bind fun b => if b then (f a).bind fun a' => whileS c f n a' else .ok a
theorem whileS_L (c : s → R ε Bool) (f : s → R ε s) : ∀ (n : Nat) (a : s), (whileL (θ := Empty) c (fun a => (f a).bind fun a => .ok (.next a)) n a) = (whileS c f n a).bind fun a => .ok (.inl a)
  | 0, a => rfl
  | n + 1, a => by
    unfold whileL whileS
    cases c a with
    | exn e => rfl
    | bad => rfl
    | ok b =>
      cases b with
      | false => rfl
      | true =>
        show ((f a).bind fun a => R.ok (Lp.next a)).bind _ = ((f a).bind fun a' => whileS c f n a').bind _
        cases f a with
        | ok a' => exact whileS_L c f n a'
        | exn e => rfl
        | bad => rfl
theorem ds_whileS [Inhabited s] {cond : Expr} {tc : TT} {c : s → R ε Bool} {f : s → R ε s} (n : Nat) (hp : PassesOwn (model X.prog X.w) X.A X.env X.xe) (w : Wk ρ (eH a0)) (hc : ∀ a, DT X J (eH a) cond tc (c a)) (hb : ∀ a, DS X J (eH a) body tb (fun a => .nc (eH a)) (f a)) :
    DS1 X J ρ (.While cond body [] pos) (tWhile tc tb) (fun a => .nx (eH a)) (whileS c f n a0) := by
  have h := ds_while (θ := Empty) (Z := zE) (pos := pos) (f := fun a => (f a).bind fun a => .ok (.next a)) n hp w (fun c => nomatch c) hc (fun a => (hb a).map (I' := Lp.oc eH _) (g := Lp.next) fun a => rfl)
  refine ⟨h.ps, EvalS.unmap (I' := ocX eH zE) (g := Sum.inl) ?_ fun a => rfl⟩
  rw [← whileS_L]
  exact h.ev
end

/-! ### defs -/
/-- the promise of a def: arguments as U says; it answers as f does -/
def spD {α β : Type} (EX : Ex ε) (U : Tys K α) (q : β → Rr) (f : α → R ε β) : Sp := fun vs H Q E => ∃ F a, Same F H ∧ U.rel a F vs ∧ match f a with
  | .ok c => ∀ F' v H', Same F F' → Same H H' → Same F' H' → Nw ⟨H, F⟩ F' → q c ⟨H, F⟩ F' H' v → Q v H'
  | .exn e => ∀ F' cls od H', Same F F' → Same H H' → Same F' H' → Nw ⟨H, F⟩ F' → EX.rel e F' cls od H' → E cls od H'
  | .bad => False
/-- the slots at the entry -/
def nones (n : Nat) : Ev K := List.replicate n none
def pl {α : Type} (T : Ty K α) (a : α) : Option (Slt K) := some (.pl T a)
/-- the arguments fill the first slots -/
structure Ent {α : Type} (U : Tys K α) (N : List Str) (n : Nat) (ρ0 : α → Ev K) : Prop where
  len : ∀ a F vs, U.rel a F vs → vs.length = n
  le : n ≤ N.length
  rho : ∀ a, (ρ0 a).length = N.length
  pl : ∀ (a : α) (i : Nat) (s : Slt K), (ρ0 a)[i]? = some (some s) → s.isOw = false
  at_ : ∀ (a : α) (F : Hp) (vs : List V) (i : Nat) (s : Slt K), U.rel a F vs → (ρ0 a)[i]? = some (some s) → ∃ v, vs[i]? = some v ∧ ∀ b H, s.At b F H v
theorem Sta.enter {α : Type} {U : Tys K α} {N : List Str} {n : Nat} {ρ0 : α → Ev K} (h : Ent U N n ρ0) {a : α} {F H : Hp} {vs : List V} (fh : Same F H) (r : U.rel a F vs) : Sta ⟨H, F⟩ (ρ0 a) F (start N vs) H where
  h0 := Same.refl _
  f0 := Same.refl _
  fh := fh
  nw := fun c o e z => by rw [show F c = none from z] at e; cases e
  len := by
    have l1 := h.len a F vs r
    have l2 := h.le
    rw [h.rho]
    unfold L2.start
    rw [List.length_append, List.length_map, List.length_replicate]
    omega
  sl := fun i s e => by
    obtain ⟨v, e1, e2⟩ := h.at_ a F vs i s r e
    refine ⟨v, ?_, e2 _ _⟩
    have hi : i < vs.length := (List.getElem?_eq_some_iff.mp e1).1
    unfold L2.start
    rw [List.getElem?_append_left (by rw [List.length_map]; exact hi), List.getElem?_map, e1]
    rfl
  ds := fun i j s t v e1 e2 o1 o2 => by rw [h.pl a i s e1] at o1; cases o1
theorem nones_get {n i : Nat} {s : Slt K} (e : (nones n : Ev K)[i]? = some (some s)) : False := by
  unfold nones at e
  rw [List.getElem?_replicate] at e
  split at e <;> cases e
theorem ent0 {N : List Str} {n : Nat} (hn : N.length = n) : Ent (tys0 : Tys K Unit) N 0 (fun _ => nones n) where
  len := fun a F vs h => by cases h; rfl
  le := Nat.zero_le _
  rho := fun a => by unfold nones; rw [List.length_replicate, hn]
  pl := fun a i s e => (nones_get e).elim
  at_ := fun a F vs i s h e => (nones_get e).elim
theorem ent1 {α : Type} {T : Ty K α} {x : Str} {N : List Str} {n : Nat} (hn : N.length = n) : Ent (tys1 T) (x :: N) 1 (fun a => pl T a :: nones n) := by
  refine ⟨fun a F vs ⟨v, h, _⟩ => by subst h; rfl, Nat.succ_le_succ (Nat.zero_le _), fun a => ?_, fun a i s e => ?_, fun a F vs i s ⟨v, h, r⟩ e => ?_⟩
  · unfold nones; rw [List.length_cons, List.length_cons, List.length_replicate, hn]
  · cases i with
    | zero => cases e; rfl
    | succ i => rw [List.getElem?_cons_succ] at e; exact (nones_get e).elim
  · cases i with
    | zero => cases e; exact ⟨v, by rw [h]; rfl, fun b H => r⟩
    | succ i => rw [List.getElem?_cons_succ] at e; exact (nones_get e).elim
theorem entC {α β : Type} {T : Ty K α} {U : Tys K β} {x : Str} {N : List Str} {n : Nat} {ρ0 : β → Ev K} (h : Ent U N n ρ0) : Ent (tysC T U) (x :: N) (n + 1) (fun a => pl T a.1 :: ρ0 a.2) := by
  refine ⟨fun a F vs ⟨v, r, e, _, q⟩ => by subst e; rw [List.length_cons, h.len _ _ _ q], Nat.succ_le_succ h.le, fun a => by rw [List.length_cons, List.length_cons, h.rho], fun a i s e => ?_, fun a F vs i s ⟨v, r, e1, q1, q2⟩ e => ?_⟩
  · cases i with
    | zero => cases e; rfl
    | succ i => exact h.pl a.2 i s e
  · cases i with
    | zero => cases e; exact ⟨v, by rw [e1]; rfl, fun b H => q1⟩
    | succ i =>
      obtain ⟨w, e2, e3⟩ := h.at_ a.2 F r i s q2 e
      exact ⟨w, by rw [e1]; exact e2, e3⟩
/-- THE RULE for a def -/
theorem fn_ok {α β : Type} {P : Program} {w : World} {mg : Str → Option Value} {base : Heap} {CX : CXT} {x qual : Str} {params : Arguments} {body : List Stmt} {scope : Scope} {dvs : List V} {kws : List (Str × V)} {f : Addr} {fd : FuncData} {N ps : List Str} {k n : Nat}
    {U : Tys K α} {ρ0 : α → Ev K} {EX : Ex ε} {q : β → Rr} {g : α → R ε β} (F : FunD K x qual params body scope dvs kws f fd) (S : FnScope N ps scope) (En : Ent U N n ρ0) (hn : ps.length = n)
    (hb : ∀ (cdv : Value) (A : Around) (outer : List Env) (s : Shared) (H : Hp) (E : XK), Room k (A.deeper (envOfC qual scope s.heap.objs.size f cdv)) → ∀ a : α,
      ∃ (t : TS) (I : β → Oc K), DS (cxOf CX P w K mg base N qual scope f cdv A outer s H E) ⟨EX, fun _ => E, nones N.length⟩ (ρ0 a) body t I (g a) ∧ ∀ c, I c = .rt (q c) ∨ ((∃ ρ', I c = .nx ρ') ∧ ∀ b F H, q c b F H .non)) :
    FnOk P w K mg base CX (k + 1) f fd ps (spD EX U q g) :=
  F.ok S (fun vs H Q E ⟨F, a, _, r, _⟩ => by rw [En.len a F vs r, hn]) fun cdv A outer s H vs Q E hr ⟨F, a, fh, r, h⟩ => by
    obtain ⟨t, I, D, hI⟩ := hb cdv A outer s H E hr a
    refine ⟨t, D.ps, D.ev ⟨H, F⟩ F _ H _ (Sta.enter En fh r) ?_⟩
    cases e : g a with
    | ok c =>
      rw [e] at h
      show (I c).Post _ _ _
      rcases hI c with z | ⟨⟨ρ', z⟩, zn⟩
      · rw [z]
        exact fun F' v H' h1 h2 h3 h4 r => h F' v H' h1 h2 h3 h4 r
      · rw [z]
        exact fun F' σ' H' _ S' => h F' .non H' S'.f0 S'.h0 S'.fh S'.nw (zn _ _ _)
    | exn e' =>
      rw [e] at h
      exact fun F' σ' cls od H' S' r => h F' cls od H' S'.f0 S'.h0 S'.fh S'.nw r
    | bad => rw [e] at h; exact h.elim
end Cp

/-! The data layer: arguments, calls, displays, places, comparisons. -/
namespace Cp
open PySem PySem.Spec L2
open PyProof.Rows hiding St
variable {K : PySem.W.Frag} {ε : Type}

/-! ### arguments -/
section
variable (J : Jc K ε)
/-- arguments that are leant on -/
def PostAp {α : Type} (b : B) (ρ : Ev K) (U : Tys K α) (F : Hp) (σ : St) (H : Hp) (Q : List V → Hp → Prop) : R ε α → Prop
  | .ok a => ∀ F' v H', Gr F H F' H' → Sta b ρ F' σ H' → U.rel a F' v → Q v H'
  | .exn e => Pex J b e
  | .bad => False
def EvalAp {α : Type} (t : TA) (ρ : Ev K) (U : Tys K α) (m : R ε α) : Prop := ∀ (b : B) (F : Hp) (σ : St) (H : Hp) (Q : List V → Hp → Prop), Sta b ρ F σ H → PostAp J b ρ U F σ H Q m → t σ H Q
def PostL {α : Type} (b : B) (ρ : Ev K) (T : Ty K α) (F : Hp) (σ : St) (H : Hp) (Q : List V → Hp → Prop) : R ε (List α) → Prop
  | .ok a => ∀ F' v H', Gr F H F' H' → Sta b ρ F' σ H' → T.all a F' v → Q v H'
  | .exn e => Pex J b e
  | .bad => False
def EvalL {α : Type} (t : TA) (ρ : Ev K) (T : Ty K α) (m : R ε (List α)) : Prop := ∀ (b : B) (F : Hp) (σ : St) (H : Hp) (Q : List V → Hp → Prop), Sta b ρ F σ H → PostL J b ρ T F σ H Q m → t σ H Q
end
structure DAp {α : Type} (X : Cx) (J : Jc X.K ε) (ρ : Ev X.K) (es : List Expr) (t : TA) (U : Tys X.K α) (m : R ε α) : Prop where
  pa : PA X es t
  ev : EvalAp J t ρ U m
structure DL {α : Type} (X : Cx) (J : Jc X.K ε) (ρ : Ev X.K) (es : List Expr) (t : TA) (T : Ty X.K α) (n : Nat) (m : R ε (List α)) : Prop where
  pa : PA X es t
  ev : EvalL J t ρ T m
  nn : es.length = n
  hn : ∀ {l : List α}, m = .ok l → l.length = n
section
variable {α β γ : Type} {X : Cx} {J : Jc X.K ε} {ρ : Ev X.K} {e : Expr} {es : List Expr} {t : TE} {ta : TA} {μ : Md}
theorem da_nil : DA X J ρ [] tNil tys0 (.ok ()) := ⟨pa_nil, fun b F σ H Q S q => q F [] H (Gr.refl _ _) S rfl⟩
theorem da_one {T : Ty X.K α} {m : R ε α} (h : DE X J ρ e t (rV μ T) m) (hs : starEach [e] X.env = (false, eval e X.env) :: starEach [] X.env := by rfl) : DA X J ρ [e] (tCons t tNil) (tys1 T) m :=
  ⟨pa_cons h.pe pa_nil hs, fun b F σ H Q S q => h.ev b F σ H _ S (by
    cases m with
    | ok a => exact fun F' v H' g S' r => q F' [v] H' g S' ⟨v, rfl, T.mono (Md.gb μ) r⟩
    | exn e => exact q
    | bad => exact q)⟩
theorem da_cons {T : Ty X.K α} {U : Tys X.K β} {m : R ε α} {n : R ε β} (h : DE X J ρ e t (rV μ T) m) (hr : DA X J ρ es ta U n) (hs : starEach (e :: es) X.env = (false, eval e X.env) :: starEach es X.env := by rfl) :
    DA X J ρ (e :: es) (tCons t ta) (tysC T U) (m.bind fun a => n.bind fun c => .ok (a, c)) :=
  ⟨pa_cons h.pe hr.pa hs, fun b F σ H Q S q => h.ev b F σ H _ S (by
    cases m with
    | ok a =>
      intro F1 v H1 g S1 r
      refine hr.ev b F1 σ H1 _ S1 ?_
      cases n with
      | ok c => exact fun F2 vs H2 g2 S2 r2 => q F2 (v :: vs) H2 (g.trans g2) S2 ⟨v, vs, rfl, T.mono ((Md.gb μ).trans (Gh.mono g2 S1)) r, r2⟩
      | exn e => exact q
      | bad => exact q
    | exn e => exact q
    | bad => exact q)⟩
theorem dp_nil : DAp X J ρ [] tNil tys0 (.ok ()) := ⟨pa_nil, fun b F σ H Q S q => q F [] H (Gr.refl _ _) S rfl⟩
theorem dp_one {T : Ty X.K α} {m : R ε α} (h : DE X J ρ e t (rP T) m) (hs : starEach [e] X.env = (false, eval e X.env) :: starEach [] X.env := by rfl) : DAp X J ρ [e] (tCons t tNil) (tys1 T) m :=
  ⟨pa_cons h.pe pa_nil hs, fun b F σ H Q S q => h.ev b F σ H _ S (by
    cases m with
    | ok a => exact fun F' v H' g S' r => q F' [v] H' g S' ⟨v, rfl, r⟩
    | exn e => exact q
    | bad => exact q)⟩
theorem dp_cons {T : Ty X.K α} {U : Tys X.K β} {m : R ε α} {n : R ε β} (h : DE X J ρ e t (rP T) m) (hr : DAp X J ρ es ta U n) (hs : starEach (e :: es) X.env = (false, eval e X.env) :: starEach es X.env := by rfl) :
    DAp X J ρ (e :: es) (tCons t ta) (tysC T U) (m.bind fun a => n.bind fun c => .ok (a, c)) :=
  ⟨pa_cons h.pe hr.pa hs, fun b F σ H Q S q => h.ev b F σ H _ S (by
    cases m with
    | ok a =>
      intro F1 v H1 g S1 r
      refine hr.ev b F1 σ H1 _ S1 ?_
      cases n with
      | ok c => exact fun F2 vs H2 g2 S2 r2 => q F2 (v :: vs) H2 (g.trans g2) S2 ⟨v, vs, rfl, T.mono g2.f r, r2⟩
      | exn e => exact q
      | bad => exact q
    | exn e => exact q
    | bad => exact q)⟩
theorem dl_nil {T : Ty X.K α} : DL X J ρ [] tNil T 0 (.ok []) := ⟨pa_nil, fun b F σ H Q S q => q F [] H (Gr.refl _ _) S .nil, rfl, fun h => by cases h; rfl⟩
theorem dl_cons {T : Ty X.K α} {m : R ε α} {k : Nat} {n : R ε (List α)} (h : DE X J ρ e t (rP T) m) (hr : DL X J ρ es ta T k n) (hs : starEach (e :: es) X.env = (false, eval e X.env) :: starEach es X.env := by rfl) :
    DL X J ρ (e :: es) (tCons t ta) T (k + 1) (m.bind fun a => n.bind fun c => .ok (a :: c)) :=
  ⟨pa_cons h.pe hr.pa hs, fun b F σ H Q S q => h.ev b F σ H _ S (by
    cases m with
    | ok a =>
      intro F1 v H1 g S1 r
      refine hr.ev b F1 σ H1 _ S1 ?_
      cases n with
      | ok c => exact fun F2 vs H2 g2 S2 r2 => q F2 (v :: vs) H2 (g.trans g2) S2 (.cons (T.mono g2.f r) r2)
      | exn e => exact q
      | bad => exact q
    | exn e => exact q
    | bad => exact q), by rw [List.length_cons, hr.nn], fun h => by
    cases m with
    | ok a =>
      cases n with
      | ok c => cases h; rw [List.length_cons, hr.hn rfl]
      | exn e => cases h
      | bad => cases h
    | exn e => cases h
    | bad => cases h⟩

/-! ### displays -/
theorem de_tup {U : Tys X.K α} {m : R ε α} {x1} {pos : Pos} (h : DAp X J ρ es ta U m) (hl : U.n ≤ sizeLine := by rw [sizeLine_eq]; exact Nat.le_of_ble_eq_true rfl) : DE X J ρ (.Tuple es x1 pos) (tTup ta) (rP (yTup U)) m :=
  ⟨pe_tup h.pa, fun b F σ H Q S q => h.ev b F σ H _ S (by
    cases m with
    | ok a => exact fun F' vs H' g S' r => ⟨by rw [U.len r]; exact hl, fun p hp => q _ _ _ (g.trans (Gr.new S'.fh hp)) (S'.new hp) ⟨p, vs, rfl, .of upd_same, U.mono (same_upd (S'.freshF hp)) r⟩⟩
    | exn e => exact q
    | bad => exact q)⟩
/-- a list, item by item -/
theorem de_lst {T : Ty X.K α} {m : R ε (List α)} {n : Nat} {pos : Pos} (h : DL X J ρ es ta T n m) (hl : n ≤ sizeLine := by rw [sizeLine_eq]; exact Nat.le_of_ble_eq_true rfl) : DE X J ρ (.List es pos) (tLst ta) (rF (cLst T)) m :=
  ⟨pe_lst h.pa, fun b F σ H Q S q => h.ev b F σ H _ S (by
    cases m with
    | ok a => exact fun F' vs H' g S' r => ⟨by rw [Paired.length r, h.hn rfl]; exact hl, fun p hp => q _ _ _ (g.trans (Gr.newH hp)) (S'.newH hp) ⟨p, _, rfl, g.h.free hp, upd_same, S'.freshF hp, vs, rfl, r⟩⟩
    | exn e => exact q
    | bad => exact q)⟩

/-! ### a def is called -/
/-- what is seen of the slots' objects goes back to the slots -/
theorem call_back {β : Type} {b : B} {ρ : Ev K} {F : Hp} {σ : St} {H : Hp} {F' H' : Hp} (S : Sta b ρ F σ H) (sf : Same (Gh ρ σ F H) F') (sh : Same H H') (fh : Same F' H') (nw : Nw ⟨H, Gh ρ σ F H⟩ F') :
    ∃ F'', Gr F H F'' H' ∧ Sta b ρ F'' σ H' ∧ (∀ p o, F' p = some o → ¬ Lc o → F'' p = some o) ∧ Same F'' F' ∧ ∀ p, F' p = none → F'' p = none := by
  classical
  let F'' : Hp := fun p => if F p = none ∧ Gh ρ σ F H p ≠ none then none else F' p
  have hF'' : ∀ p, F'' p = if F p = none ∧ Gh ρ σ F H p ≠ none then none else F' p := fun p => rfl
  have s1 : Same F F'' := fun p o e => by
    rw [hF'', if_neg (by rw [e]; rintro ⟨z, _⟩; cases z)]
    exact sf _ _ (Gh.ge _ _ e)
  have s2 : Same F'' F' := fun p o e => by
    rw [hF''] at e
    split at e
    · cases e
    · exact e
  have g : Gr F H F'' H' := ⟨s1, sh, fun p ⟨o, e⟩ n => by
    rw [hF'']
    split
    · rfl
    · rename_i z
      cases q : F' p with
      | none => rfl
      | some u =>
        have gn : Gh ρ σ F H p = none := by
          cases q2 : Gh ρ σ F H p with
          | none => rfl
          | some w => exact (z ⟨n, by rw [q2]; exact fun e => nomatch e⟩).elim
        have := nw p u q gn
        rw [show H p = none from this] at e; cases e⟩
  refine ⟨F'', g, g.sta S (s2.trans fh), fun p o e nl => ?_, s2, fun p e => ?_⟩
  · rw [hF'']
    split
    · rename_i z
      obtain ⟨z1, z2⟩ := z
      exfalso
      cases q : Gh ρ σ F H p with
      | none => exact z2 q
      | some u =>
        have e2 := sf _ _ q
        rw [e] at e2; cases e2
        -- an own object
        unfold Gh at q
        rw [z1] at q
        simp only at q
        split at q
        case isFalse => cases q
        case isTrue y =>
          obtain ⟨i, s, y1, y2, y3⟩ := y
          obtain ⟨v, y4, y5⟩ := S.sl i s y1
          rw [y3] at y4; cases y4
          cases s with
          | pl T a => cases y2
          | ow C a =>
            obtain ⟨p', o', e1, e2, _, _, e5⟩ := y5
            cases e1
            rw [q] at e2; cases e2
            exact nl (C.mu e5)
    · exact e
  · rw [hF'']
    split
    · rfl
    · exact e
/-- no slot holds an object of its own -/
def NoOw (ρ : Ev K) : Prop := ∀ (i : Nat) (s : Slt K), ρ[i]? = some (some s) → s.isOw = false
variable {mg : Str → Option Value} {CX : CXT} {k : Nat} {f : Addr} {fd : FuncData} {ps : List Str} {x : Str} {p pos : Pos} {U : Tys X.K α} {g : α → R ε β} {m : R ε α} {ds : List Value} {dvs : List V}
def tCallG (sp : Sp) (E : St → XK) (t : TA) (dvs : List V) : TE := fun σ H Q => t σ H fun vs H1 => sp (vs ++ dvs) H1 Q (E σ)
theorem run_fnG {sp : Sp} {E : St → XK} {pins : List (Addr × Obj)} {σ : St} {H : Hp} {s : Shared} {Q : VK} {us : List Value} {vs : List V} (F : FnOk X.prog X.w X.K X.mg X.base CX k f fd ps sp) (hr : Room k X.A) (hb : Binds X.K fd ps ds) (hd : Vals dvs ds) (hx : PassesAt CX X σ (E σ))
    (I : Inv X pins σ H s) (r : Vals vs us) (h : sp (vs ++ dvs) H Q (E σ)) : wpAny (model X.prog X.w) X.A (call (.ref f) us) (EP X pins σ Q) X.xe s := by
  have r2 : Vals (vs ++ dvs) (us ++ ds) := r.append hd
  have hl : (us ++ ds).length = ps.length := by rw [← r2.length]; exact F.len _ _ _ _ h
  refine wpAny_call (codeAny_mono (F.run X.A X.stack s H ⟨us, []⟩ (us ++ ds) (vs ++ dvs) Q (E σ) hr I.env0 (hb s us I.kIn hl) r2 h) fun r s' hq => ?_)
  cases r with
  | error e => exact hx pins H s e s' I hq
  | ok fl =>
    cases fl with
    | ret u => exact I.after hq
    | next => exact False.elim hq
    | brk => exact False.elim hq
    | cont => exact False.elim hq
theorem pe_callG {sp : Sp} {E : St → XK} (F : FnOk X.prog X.w X.K X.mg X.base CX k f fd ps sp) (hr : Room k X.A) (hg : Gl X x) (hm : X.mg x = some (.ref f)) (hk : PySem.W.keepIn X.K (.ref f) = true) (hb : Binds X.K fd ps ds) (hd : Vals dvs ds) (hx : ∀ σ, PassesAt CX X σ (E σ))
    (ha : PA X (e :: es) ta) (hdb : (x == ("__debug__" : Str)) = false := by decide) (he : starEach (e :: es) X.env = (false, eval e X.env) :: starEach es X.env := by rfl) (hpl : (backTo pos (starEach es X.env)).any (·.1) = false := by rfl) :
    PE X (.Call (.Name x p) (e :: es) [] pos) (tCallG sp E ta dvs) := by
  refine ⟨fun pins s σ H Q I h => ?_⟩
  refine wpAny_Call_Name_kw (ld_glob I hg hm ?_ hdb)
  refine PySem.W.callWith_K (h₀ := X.base) I.ok.mod.kin hk (thn (ha.run pos pins s σ H _ I h) fun us s1 ⟨vs, H1, I1, r, q⟩ => ⟨I1.kIn, ?_⟩) he hpl
  exact run_fnG F hr hb hd (hx σ) I1 r q
/-- a call that gives plain data; what it is handed may be the slots' own -/
theorem de_call {T : Ty X.K β} (F : FnOk X.prog X.w X.K X.mg X.base CX k f fd ps (spD J.EX U (qP T) g)) (hr : Room k X.A) (hg : Gl X x) (hm : X.mg x = some (.ref f)) (hk : PySem.W.keepIn X.K (.ref f) = true) (hb : Binds X.K fd ps []) (hx : ∀ σ, PassesAt CX X σ (J.E σ))
    (ha : DA X J ρ (e :: es) ta U m) (hi : T.imm) (hw : Wk ρ J.eh) (hdb : (x == ("__debug__" : Str)) = false := by decide) (he : starEach (e :: es) X.env = (false, eval e X.env) :: starEach es X.env := by rfl) (hpl : (backTo pos (starEach es X.env)).any (·.1) = false := by rfl) :
    DE X J ρ (.Call (.Name x p) (e :: es) [] pos) (tCallG (spD J.EX U (qP T) g) J.E ta []) (rP T) (m.bind g) :=
  ⟨pe_callG F hr hg hm hk hb .nil hx ha.pa hdb he hpl, fun b F0 σ H Q S q => ha.ev.then_ S q fun a F1 vs H1 g1 S1 r1 q1 => by
    rw [List.append_nil]
    refine ⟨_, a, Gh.le S1.fh, r1, ?_⟩
    revert q1
    generalize g a = z
    intro q1
    cases z with
    | ok c =>
      intro F' v H' h1 h2 h3 h4 h5
      obtain ⟨F'', g2, S2, h6, h7, h8⟩ := call_back (β := β) S1 h1 h2 h3 h4
      exact q1 F'' v H' g2 S2 (hi h6 h5)
    | exn e' =>
      intro F' cls od H' h1 h2 h3 h4 h5
      obtain ⟨F'', g2, S2, h6, h7, h8⟩ := call_back (β := β) S1 h1 h2 h3 h4
      exact q1 F'' σ cls od H' (S2.wk hw) (J.EX.imm h6 h5)
    | bad => exact q1⟩
/-- a call that gives a new object -/
theorem de_callF {C : Ct X.K β} (F : FnOk X.prog X.w X.K X.mg X.base CX k f fd ps (spD J.EX U (qF C) g)) (hr : Room k X.A) (hg : Gl X x) (hm : X.mg x = some (.ref f)) (hk : PySem.W.keepIn X.K (.ref f) = true) (hb : Binds X.K fd ps []) (hx : ∀ σ, PassesAt CX X σ (J.E σ))
    (ha : DA X J ρ (e :: es) ta U m) (hi : C.imm) (hw : Wk ρ J.eh) (hdb : (x == ("__debug__" : Str)) = false := by decide) (he : starEach (e :: es) X.env = (false, eval e X.env) :: starEach es X.env := by rfl) (hpl : (backTo pos (starEach es X.env)).any (·.1) = false := by rfl) :
    DE X J ρ (.Call (.Name x p) (e :: es) [] pos) (tCallG (spD J.EX U (qF C) g) J.E ta []) (rF C) (m.bind g) :=
  ⟨pe_callG F hr hg hm hk hb .nil hx ha.pa hdb he hpl, fun b F0 σ H Q S q => ha.ev.then_ S q fun a F1 vs H1 g1 S1 r1 q1 => by
    rw [List.append_nil]
    refine ⟨_, a, Gh.le S1.fh, r1, ?_⟩
    revert q1
    generalize g a = z
    intro q1
    cases z with
    | ok c =>
      intro F' v H' h1 h2 h3 h4 h5
      obtain ⟨F'', g2, S2, h6, h7, h8⟩ := call_back (β := β) S1 h1 h2 h3 h4
      obtain ⟨p, o, e1, e2, e3, e4, e5⟩ := h5
      exact q1 F'' v H' g2 S2 ⟨p, o, e1, e4, e2, h8 _ e3, hi h6 e5⟩
    | exn e' =>
      intro F' cls od H' h1 h2 h3 h4 h5
      obtain ⟨F'', g2, S2, h6, h7, h8⟩ := call_back (β := β) S1 h1 h2 h3 h4
      exact q1 F'' σ cls od H' (S2.wk hw) (J.EX.imm h6 h5)
    | bad => exact q1⟩
theorem EvalAp.then_ {J : Jc K ε} {ρ : Ev K} {b : B} {F : Hp} {σ : L2.St} {H : Hp} {Q : VK} {P : Rk K α} {t : TA} {U : Tys K β} {m : R ε β} {k : β → R ε α} {R' : List V → Hp → Prop} (h : EvalAp J t ρ U m) (S : Sta b ρ F σ H) (q : PostE J b ρ P F σ H Q (m.bind k))
    (hk : ∀ a F' v H', Gr F H F' H' → Sta b ρ F' σ H' → U.rel a F' v → PostE J b ρ P F' σ H' Q (k a) → R' v H') : t σ H R' := by
  refine h b F σ H R' S ?_
  cases m with
  | ok a => exact fun F' v H' g S' r => hk a F' v H' g S' r (PostE.later g q)
  | exn e => exact q
  | bad => exact q
/-- what a call leans on goes on -/
theorem call_on {b : B} {ρ : Ev K} {F : Hp} {σ : L2.St} {H : Hp} {F' H' : Hp} (S : Sta b ρ F σ H) (sf : Same F F') (sh : Same H H') (fh : Same F' H') (nw : Nw ⟨H, F⟩ F') : Gr F H F' H' ∧ Sta b ρ F' σ H' := by
  have g : Gr F H F' H' := ⟨sf, sh, fun p ⟨o, e⟩ n => by
    cases q : F' p with
    | none => rfl
    | some u =>
      have := nw p u q n
      rw [show H p = none from this] at e; cases e⟩
  exact ⟨g, g.sta S fh⟩
theorem de_callP {T : Ty X.K β} (F : FnOk X.prog X.w X.K X.mg X.base CX k f fd ps (spD J.EX U (qP T) g)) (hr : Room k X.A) (hg : Gl X x) (hm : X.mg x = some (.ref f)) (hk : PySem.W.keepIn X.K (.ref f) = true) (hb : Binds X.K fd ps []) (hx : ∀ σ, PassesAt CX X σ (J.E σ))
    (ha : DAp X J ρ (e :: es) ta U m) (hw : Wk ρ J.eh) (hdb : (x == ("__debug__" : Str)) = false := by decide) (he : starEach (e :: es) X.env = (false, eval e X.env) :: starEach es X.env := by rfl) (hpl : (backTo pos (starEach es X.env)).any (·.1) = false := by rfl) :
    DE X J ρ (.Call (.Name x p) (e :: es) [] pos) (tCallG (spD J.EX U (qP T) g) J.E ta []) (rP T) (m.bind g) :=
  ⟨pe_callG F hr hg hm hk hb .nil hx ha.pa hdb he hpl, fun b F0 σ H Q S q => ha.ev.then_ S q fun a F1 vs H1 g1 S1 r1 q1 => by
    rw [List.append_nil]
    refine ⟨_, a, S1.fh, r1, ?_⟩
    revert q1
    generalize g a = z
    intro q1
    cases z with
    | ok c =>
      intro F' v H' h1 h2 h3 h4 h5
      obtain ⟨g2, S2⟩ := call_on S1 h1 h2 h3 h4
      exact q1 F' v H' g2 S2 h5
    | exn e' =>
      intro F' cls od H' h1 h2 h3 h4 h5
      obtain ⟨g2, S2⟩ := call_on S1 h1 h2 h3 h4
      exact q1 F' σ cls od H' (S2.wk hw) h5
    | bad => exact q1⟩
theorem de_callPF {C : Ct X.K β} (F : FnOk X.prog X.w X.K X.mg X.base CX k f fd ps (spD J.EX U (qF C) g)) (hr : Room k X.A) (hg : Gl X x) (hm : X.mg x = some (.ref f)) (hk : PySem.W.keepIn X.K (.ref f) = true) (hb : Binds X.K fd ps []) (hx : ∀ σ, PassesAt CX X σ (J.E σ))
    (ha : DAp X J ρ (e :: es) ta U m) (hw : Wk ρ J.eh) (hdb : (x == ("__debug__" : Str)) = false := by decide) (he : starEach (e :: es) X.env = (false, eval e X.env) :: starEach es X.env := by rfl) (hpl : (backTo pos (starEach es X.env)).any (·.1) = false := by rfl) :
    DE X J ρ (.Call (.Name x p) (e :: es) [] pos) (tCallG (spD J.EX U (qF C) g) J.E ta []) (rF C) (m.bind g) :=
  ⟨pe_callG F hr hg hm hk hb .nil hx ha.pa hdb he hpl, fun b F0 σ H Q S q => ha.ev.then_ S q fun a F1 vs H1 g1 S1 r1 q1 => by
    rw [List.append_nil]
    refine ⟨_, a, S1.fh, r1, ?_⟩
    revert q1
    generalize g a = z
    intro q1
    cases z with
    | ok c =>
      intro F' v H' h1 h2 h3 h4 h5
      obtain ⟨g2, S2⟩ := call_on S1 h1 h2 h3 h4
      obtain ⟨p, o, e1, e2, e3, e4, e5⟩ := h5
      exact q1 F' v H' g2 S2 ⟨p, o, e1, e4, e2, e3, e5⟩
    | exn e' =>
      intro F' cls od H' h1 h2 h3 h4 h5
      obtain ⟨g2, S2⟩ := call_on S1 h1 h2 h3 h4
      exact q1 F' σ cls od H' (S2.wk hw) h5
    | bad => exact q1⟩

/-! ### places -/
def rIx {α : Type} (l : List α) (i : Int) : R ε α := match atI l i with
  | some a => .ok a
  | none => .bad
theorem all_get {T : Ty K α} {F : Hp} : ∀ {l : List α} {xs : List V} {j : Nat} {a : α}, T.all l F xs → l[j]? = some a → ∃ v, xs[j]? = some v ∧ T.rel a F v
  | _, _, _, _, .nil, e => by simp at e
  | _, _, 0, _, .cons r _, e => by simp at e; subst e; exact ⟨_, rfl, r⟩
  | _, _, j + 1, a, .cons _ t, e => by
    obtain ⟨u, h1, h2⟩ := all_get (j := j) (a := a) t (by simpa using e)
    exact ⟨u, by simpa using h1, h2⟩
theorem all_none {T : Ty K α} {F : Hp} {l : List α} {xs : List V} {j : Nat} (r : T.all l F xs) (e : l[j]? = none) : xs[j]? = none := by
  have := Paired.length r
  rw [List.getElem?_eq_none_iff] at e ⊢
  omega
theorem atI_rel {T : Ty K α} {l : List α} {F : Hp} {xs : List V} {i : Int} {a : α} (r : T.all l F xs) (h : atI l i = some a) : ∃ v, atI xs i = some v ∧ T.rel a F v := by
  have hl := Paired.length r
  unfold atI at h ⊢
  rw [hl]
  cases q : ixN l.length i with
  | none => rw [q] at h; cases h
  | some j => rw [q] at h; exact all_get r h
variable {e' : Expr} {t' : TE} {ν : Md}
theorem de_ixL {T : Ty X.K α} {ml : R ε (List α)} {mi : R ε Int} (ha : DE X J ρ e t (rV μ (yLst T)) ml) (hi : DE X J ρ e' t' (rV ν yInt) mi) (hs : PlainIx e' := by exact fun _ _ => rfl) :
    DE X J ρ (.Subscript e e' pos) (tOp (rIxL X.K) t t') (rV μ T) (ml.bind fun l => mi.bind fun i => rIx l i) :=
  ⟨pe_ix ix_list ha.pe hi.pe hs, ha.ev.op2 hi.ev fun b F σ H l i v w Q S r1 r2 q => by
    cases r2
    obtain ⟨p, xs, rfl, hp, r⟩ := r1
    unfold rIx at q
    cases z : atI l i with
    | none => rw [z] at q; exact q.elim
    | some a =>
      rw [z] at q
      obtain ⟨v, h1, h2⟩ := atI_rel r z
      exact ⟨p, xs, i, v, rfl, rfl, .of (Md.le S μ _ _ hp), h1, PostE.here q S h2⟩⟩
theorem de_ixS {T : Ty X.K α} {ml : R ε (List α)} {mi : R ε Int} (ha : DE X J ρ e t (rV μ (yScr T)) ml) (hi : DE X J ρ e' t' (rV ν yInt) mi) (hs : PlainIx e' := by exact fun _ _ => rfl) :
    DE X J ρ (.Subscript e e' pos) (tOp (rIxL X.K) t t') (rV μ T) (ml.bind fun l => mi.bind fun i => rIx l i) :=
  ⟨pe_ix ix_list ha.pe hi.pe hs, ha.ev.op2 hi.ev fun b F σ H l i v w Q S r1 r2 q => by
    cases r2
    obtain ⟨p, xs, rfl, hp, r⟩ := r1
    unfold rIx at q
    cases z : atI l i with
    | none => rw [z] at q; exact q.elim
    | some a =>
      rw [z] at q
      obtain ⟨v, h1, h2⟩ := atI_rel r z
      exact ⟨p, xs, i, v, rfl, rfl, Same.seq (Md.le S μ) hp, h1, PostE.here q S h2⟩⟩
theorem de_ixT {T : Ty X.K α} {ml : R ε (List α)} {mi : R ε Int} (ha : DE X J ρ e t (rV μ (yTupOf T)) ml) (hi : DE X J ρ e' t' (rV ν yInt) mi) (hs : PlainIx e' := by exact fun _ _ => rfl) :
    DE X J ρ (.Subscript e e' pos) (tOp (rIxT X.K) t t') (rV μ T) (ml.bind fun l => mi.bind fun i => rIx l i) :=
  ⟨pe_ix ix_tup ha.pe hi.pe hs, ha.ev.op2 hi.ev fun b F σ H l i v w Q S r1 r2 q => by
    cases r2
    obtain ⟨p, xs, rfl, hp, r⟩ := r1
    unfold rIx at q
    cases z : atI l i with
    | none => rw [z] at q; exact q.elim
    | some a =>
      rw [z] at q
      obtain ⟨v, h1, h2⟩ := atI_rel r z
      exact ⟨p, xs, i, v, rfl, rfl, Same.sqt (Md.le S μ) hp, h1, PostE.here q S h2⟩⟩
/-- a place of a tuple of fixed length -/
structure Nth {α β : Type} (U : Tys K α) (k : Nat) (T : Ty K β) (π : α → β) : Prop where
  at_ : ∀ {a : α} {F : Hp} {vs : List V}, U.rel a F vs → ∃ v, vs[k]? = some v ∧ T.rel (π a) F v
theorem nth_1 {T : Ty K α} : Nth (tys1 T) 0 T (fun a => a) := ⟨fun ⟨v, e, r⟩ => ⟨v, by rw [e]; rfl, r⟩⟩
theorem nth_0 {T : Ty K α} {U : Tys K β} : Nth (tysC T U) 0 T Prod.fst := ⟨fun ⟨v, vs, e, r, _⟩ => ⟨v, by rw [e]; rfl, r⟩⟩
theorem nth_s {T : Ty K α} {U : Tys K β} {k : Nat} {T' : Ty K γ} {π : β → γ} (h : Nth U k T' π) : Nth (tysC T U) (k + 1) T' (fun a => π a.2) := ⟨fun ⟨v, vs, e, r, q⟩ => let ⟨w, e1, e2⟩ := h.at_ q; ⟨w, by rw [e]; exact e1, e2⟩⟩
theorem de_nth {U : Tys X.K α} {T : Ty X.K β} {π : α → β} {k : Int} {ma : R ε α} {j : Nat} {q : Pos} (ha : DE X J ρ e t (rV μ (yTup U)) ma) (hn : Nth U k.toNat T π) (hk : 0 ≤ k := by decide) :
    DE X J ρ (.Subscript e (.Constant (.int k) j q) pos) (tOp (rIxT X.K) t (tC (.int k))) (rV μ T) (ma.bind fun a => .ok (π a)) := by
  have h : DE X J ρ (.Subscript e (.Constant (.int k) j q) pos) (tOp (rIxT X.K) t (tC (.int k))) (rV μ T) (ma.bind fun a => (R.ok (ε := ε) k).bind fun i => if i = k then .ok (π a) else .bad) :=
    ⟨pe_ix ix_tup ha.pe pe_int (fun _ _ => rfl), ha.ev.op2 (μ := μ) (ν := .p) (U := yInt) (fun b F σ H Q S q => PostE.here q S rfl) fun b F σ H a i v w Q S r1 r2 q => by
      cases r2
      by_cases hi : i = k
      · subst hi
        rw [if_pos rfl] at q
        obtain ⟨p, xs, rfl, hp, r⟩ := r1
        obtain ⟨v, h1, h2⟩ := hn.at_ r
        refine ⟨p, xs, i, v, rfl, rfl, Same.sqt (Md.le S μ) hp, ?_, PostE.here q S h2⟩
        have := atI_nat h1
        rw [Int.toNat_of_nonneg hk] at this
        exact this
      · rw [if_neg hi] at q; exact q.elim⟩
  refine h.cast ?_
  congr 1
  funext a
  show (if k = k then R.ok (π a) else .bad) = _
  rw [if_pos rfl]
end
end Cp

/-! The data layer: equality, in. -/
namespace Cp
open PySem PySem.Spec L2
open PyProof.Rows hiding St
variable {K : PySem.W.Frag} {ε : Type}
section
variable {α β γ : Type}
theorem Dp.mono {F F' : Hp} (e : Same F F') : ∀ (d : PyData) (v : V), Dp K F v d → Dp K F' v d
  | .none, _, h => by cases h; exact .non
  | .bool b, _, h => by cases h; exact .bl b
  | .int i, _, h => by cases h; exact .int i
  | .str x, _, h => by cases h; exact .str x
  | .list ds, _, h => by
    cases h with
    | lst hs ha => exact .lst (Same.seq e hs) (all ds _ ha)
  | .tuple ds, _, h => by
    cases h with
    | tup hs ha => exact .tup (Same.sqt e hs) (all ds _ ha)
  | .dict _, _, h => by cases h
where all : ∀ (ds : List PyData) (vs : List V), DpAll K F vs ds → DpAll K F' vs ds
  | [], _, h => by cases h; exact .nil
  | d :: ds, _, h => by
    cases h with
    | cons h1 h2 => exact .cons (Dp.mono e d _ h1) (all ds _ h2)
/-- how data is told to the interpreter's == : up to d levels deep -/
structure Pd (T : Ty K α) where
  py : α → PyData
  d : Nat
  dp : ∀ {a : α} {F : Hp} {v : V}, T.rel a F v → Dp K F v (py a) ∧ (py a).canLay0 = true
  dep : ∀ a, (py a).depth ≤ d
structure Pds (U : Tys K α) where
  py : α → List PyData
  d : Nat
  dp : ∀ {a : α} {F : Hp} {v : List V}, U.rel a F v → DpAll K F v (py a) ∧ PyData.canLayAll0 (py a) = true
  dep : ∀ a, PyData.depthAll (py a) ≤ d
def pInt : Pd (yInt (K := K)) := ⟨.int, 0, fun h => by cases h; exact ⟨.int _, rfl⟩, fun _ => Nat.le_refl _⟩
def pBl : Pd (yBl (K := K)) := ⟨.bool, 0, fun h => by cases h; exact ⟨.bl _, rfl⟩, fun _ => Nat.le_refl _⟩
def pStr : Pd (yStr (K := K)) := ⟨.str, 0, fun h => by obtain ⟨h, z⟩ := h; cases h; exact ⟨.str _, by rw [PyData.canLay0]; exact z⟩, fun _ => Nat.le_refl _⟩
def pNon : Pd (yNon (K := K)) := ⟨fun _ => .none, 0, fun h => by cases h; exact ⟨.non, rfl⟩, fun _ => Nat.le_refl _⟩
def ps1 {T : Ty K α} (P : Pd T) : Pds (tys1 T) := ⟨fun a => [P.py a], P.d, fun ⟨v, e, r⟩ => by subst e; exact ⟨.cons (P.dp r).1 .nil, by simp [PyData.canLayAll0, (P.dp r).2]⟩, fun a => by simp [PyData.depthAll]; exact P.dep a⟩
def psC {T : Ty K α} {U : Tys K β} (P : Pd T) (Q : Pds U) : Pds (tysC T U) := ⟨fun a => P.py a.1 :: Q.py a.2, max P.d Q.d, fun ⟨v, vs, e, r, q⟩ => by subst e; exact ⟨.cons (P.dp r).1 (Q.dp q).1, by simp [PyData.canLayAll0, (P.dp r).2, (Q.dp q).2]⟩, fun a => by
  have h1 := P.dep a.1
  have h2 := Q.dep a.2
  simp only [PyData.depthAll]
  omega⟩
def pTup {U : Tys K α} (P : Pds U) : Pd (yTup U) := ⟨fun a => .tuple (P.py a), P.d + 1, fun ⟨p, xs, e, h, r⟩ => by subst e; exact ⟨.tup h (P.dp r).1, by rw [PyData.canLay0]; exact (P.dp r).2⟩, fun a => by rw [PyData.depth]; exact Nat.succ_le_succ (P.dep a)⟩
theorem pd_all {T : Ty K α} (P : Pd T) {F : Hp} {xs : List V} {l : List α} (r : T.all l F xs) : DpAll K F xs (l.map P.py) ∧ PyData.canLayAll0 (l.map P.py) = true := by
  induction r with
  | nil => exact ⟨.nil, rfl⟩
  | cons r0 _ ih => exact ⟨.cons (P.dp r0).1 ih.1, by simp only [List.map_cons, PyData.canLayAll0, (P.dp r0).2, ih.2, Bool.and_true]⟩
theorem pd_depth {T : Ty K α} (P : Pd T) : ∀ l : List α, PyData.depthAll (l.map P.py) ≤ P.d
  | [] => Nat.zero_le _
  | a :: l => by
    have h1 := P.dep a
    have h2 := pd_depth P l
    simp only [List.map_cons, PyData.depthAll]
    omega
def pTupOf {T : Ty K α} (P : Pd T) : Pd (yTupOf T) := ⟨fun a => .tuple (a.map P.py), P.d + 1, fun ⟨p, xs, e, h, r⟩ => by subst e; exact ⟨.tup h (pd_all P r).1, by rw [PyData.canLay0]; exact (pd_all P r).2⟩, fun a => by rw [PyData.depth]; exact Nat.succ_le_succ (pd_depth P a)⟩
def pLst {T : Ty K α} (P : Pd T) : Pd (yLst T) := ⟨fun a => .list (a.map P.py), P.d + 1, fun ⟨p, xs, e, h, r⟩ => by subst e; exact ⟨.lst (.of h) (pd_all P r).1, by rw [PyData.canLay0]; exact (pd_all P r).2⟩, fun a => by rw [PyData.depth]; exact Nat.succ_le_succ (pd_depth P a)⟩
def pOpt {T : Ty K α} (P : Pd T) : Pd (yOpt T) := ⟨fun a => match a with | none => .none | some x => P.py x, P.d, fun {a} F v h => by
  cases a with
  | none => cases (show v = V.non from h); exact ⟨.non, rfl⟩
  | some x => exact P.dp h.1, fun a => by
  cases a with
  | none => exact Nat.zero_le _
  | some x => exact P.dep x⟩
def pSum {T : Ty K α} {U : Ty K β} (P : Pd T) (Q : Pd U) : Pd (ySum T U) := ⟨fun a => match a with | .inl x => P.py x | .inr x => Q.py x, max P.d Q.d, fun {a} F v h => by
  cases a with
  | inl x => exact P.dp h
  | inr x => exact Q.dp h, fun a => by
  cases a with
  | inl x => exact Nat.le_trans (P.dep x) (Nat.le_max_left _ _)
  | inr x => exact Nat.le_trans (Q.dep x) (Nat.le_max_right _ _)⟩
/-- what == gives -/
structure PEq {T : Ty K α} {U : Ty K β} (P : Pd T) (Q : Pd U) (f : α → β → Bool) : Prop where
  eq : ∀ a b, PyData.eqv (P.py a) (Q.py b) = f a b
structure PEqs {T : Tys K α} {U : Tys K β} (P : Pds T) (Q : Pds U) (f : α → β → Bool) : Prop where
  eq : ∀ a b, PyData.eqvAll (P.py a) (Q.py b) = f a b
theorem q_int : PEq (pInt (K := K)) pInt (fun a b => decide (a = b)) := ⟨fun a b => by simp [pInt, PyData.eqv]; rfl⟩
theorem q_bl : PEq (pBl (K := K)) pBl (fun a b => decide (a = b)) := ⟨fun a b => by simp [pBl, PyData.eqv]; cases a <;> cases b <;> rfl⟩
theorem q_str : PEq (pStr (K := K)) pStr (fun a b => decide (a = b)) := ⟨fun a b => by
  show PyData.eqv (.str a) (.str b) = _
  rw [PyData.eqv, Bool.eq_iff_iff]
  simp⟩
theorem q_1 [DecidableEq α] {T : Ty K α} {P : Pd T} (h : PEq P P fun a b => decide (a = b)) : PEqs (ps1 P) (ps1 P) fun a b => decide (a = b) := ⟨fun a b => by
  show PyData.eqvAll [P.py a] [P.py b] = _
  rw [PyData.eqvAll, h.eq, PyData.eqvAll, Bool.and_true]⟩
theorem q_C [DecidableEq α] [DecidableEq β] {T : Ty K α} {U : Tys K β} {P : Pd T} {Q : Pds U} (h : PEq P P fun a b => decide (a = b)) (h2 : PEqs Q Q fun a b => decide (a = b)) : PEqs (psC P Q) (psC P Q) fun a b => decide (a = b) := ⟨fun a b => by
  show PyData.eqvAll (P.py a.1 :: Q.py a.2) (P.py b.1 :: Q.py b.2) = _
  rw [PyData.eqvAll, h.eq, h2.eq, Bool.eq_iff_iff]
  simp only [Bool.and_eq_true, decide_eq_true_eq, Prod.ext_iff]⟩
theorem q_tup [DecidableEq α] {U : Tys K α} {P : Pds U} (h : PEqs P P fun a b => decide (a = b)) : PEq (pTup P) (pTup P) fun a b => decide (a = b) := ⟨fun a b => by
  show PyData.eqv (.tuple (P.py a)) (.tuple (P.py b)) = _
  rw [PyData.eqv, h.eq]⟩
theorem q_all [DecidableEq α] {T : Ty K α} {P : Pd T} (h : PEq P P fun a b => decide (a = b)) : ∀ l l' : List α, PyData.eqvAll (l.map P.py) (l'.map P.py) = decide (l = l')
  | [], [] => rfl
  | [], _ :: _ => rfl
  | _ :: _, [] => rfl
  | a :: l, b :: l' => by
    rw [List.map_cons, List.map_cons, PyData.eqvAll, h.eq, q_all h l l', Bool.eq_iff_iff]
    simp only [Bool.and_eq_true, decide_eq_true_eq, List.cons.injEq]
theorem q_tupOf [DecidableEq α] {T : Ty K α} {P : Pd T} (h : PEq P P fun a b => decide (a = b)) : PEq (pTupOf P) (pTupOf P) fun a b => decide (a = b) := ⟨fun a b => by
  show PyData.eqv (.tuple _) (.tuple _) = _
  rw [PyData.eqv, q_all h]⟩
theorem q_lst [DecidableEq α] {T : Ty K α} {P : Pd T} (h : PEq P P fun a b => decide (a = b)) : PEq (pLst P) (pLst P) fun a b => decide (a = b) := ⟨fun a b => by
  show PyData.eqv (.list _) (.list _) = _
  rw [PyData.eqv, q_all h]⟩
end
section
variable {α β γ : Type} {X : Cx} {J : Jc X.K ε} {ρ : Ev X.K} {e e' : Expr} {t t' : TE} {pos : Pos} {μ ν : Md} {T : Ty X.K α} {U : Ty X.K β} {P : Pd T} {Q : Pd U} {f : α → β → Bool} {ma : R ε α} {mb : R ε β}
theorem shaped_of {d : PyData} (h : d.canLay0 = true) (h2 : d.depth ≤ 64) : SeqAt.shaped d = true := by
  unfold SeqAt.shaped
  rw [h, Bool.true_and]
  exact decide_eq_true h2
theorem lo {a b : Nat} (h : Nat.ble a b = true) : a ≤ b := Nat.le_of_ble_eq_true h
theorem dq_eq (hq : PEq P Q f) (hu : X.A.units + 64 < cLine) (h1 : P.d ≤ 64 := by decide) (h2 : Q.d ≤ 64 := by decide) (ha : DE X J ρ e t (rV μ T) ma) (hb : DE X J ρ e' t' (rV ν U) mb) :
    DQ X J ρ (.Compare e [.Eq] [e'] pos) (tOp (rEqD X.K) t t') (ma.bind fun a => mb.bind fun c => .ok (f a c)) :=
  dq_cmp (op_eqD hu) (nomark _) ha hb fun b F σ H x y v w Q' S r1 r2 q => by
    obtain ⟨d1, l1⟩ := P.dp r1
    obtain ⟨d2, l2⟩ := Q.dp r2
    exact ⟨_, _, Dp.mono (Md.le S μ) _ _ d1, Dp.mono (Md.le S ν) _ _ d2, shaped_of l1 (Nat.le_trans (P.dep x) h1), shaped_of l2 (Nat.le_trans (Q.dep y) h2), by rw [hq.eq]; exact PostE.here q S rfl⟩
theorem dq_ne (hq : PEq P Q f) (hu : X.A.units + 64 < cLine) (h1 : P.d ≤ 64 := by decide) (h2 : Q.d ≤ 64 := by decide) (ha : DE X J ρ e t (rV μ T) ma) (hb : DE X J ρ e' t' (rV ν U) mb) :
    DQ X J ρ (.Compare e [.NotEq] [e'] pos) (tOp (rNeD X.K) t t') (ma.bind fun a => mb.bind fun c => .ok (!f a c)) :=
  dq_cmp (op_neD hu) (nomark _) ha hb fun b F σ H x y v w Q' S r1 r2 q => by
    obtain ⟨d1, l1⟩ := P.dp r1
    obtain ⟨d2, l2⟩ := Q.dp r2
    exact ⟨_, _, Dp.mono (Md.le S μ) _ _ d1, Dp.mono (Md.le S ν) _ _ d2, shaped_of l1 (Nat.le_trans (P.dep x) h1), shaped_of l2 (Nat.le_trans (Q.dep y) h2), by rw [hq.eq]; exact PostE.here q S rfl⟩
/-- ints and bools and texts, by themselves -/
theorem dq_cmpI {op : CmpOp} {p : Int → Int → Bool} {ma mb : R ε Int} (ho : OpR X (compareOp op) (rI0 fun i j => .bl (p i j))) (hm : behindInMarks op e' = false) (ha : DE X J ρ e t (rV μ yInt) ma) (hb : DE X J ρ e' t' (rV ν yInt) mb) :
    DQ X J ρ (.Compare e [op] [e'] pos) (tOp (rI0 fun i j => .bl (p i j)) t t') (ma.bind fun a => mb.bind fun c => .ok (p a c)) :=
  dq_cmp ho hm ha hb fun b F σ H x y v w Q S r1 r2 q => by cases r1; cases r2; exact ⟨x, y, rfl, rfl, PostE.here q S rfl⟩
theorem dq_lt {ma mb : R ε Int} (ha : DE X J ρ e t (rV μ yInt) ma) (hb : DE X J ρ e' t' (rV ν yInt) mb) : DQ X J ρ (.Compare e [.Lt] [e'] pos) (tOp (rI0 fun i j => .bl (decide (i < j))) t t') (ma.bind fun a => mb.bind fun c => .ok (decide (a < c))) := dq_cmpI op_lt (nomark _) ha hb
theorem dq_le {ma mb : R ε Int} (ha : DE X J ρ e t (rV μ yInt) ma) (hb : DE X J ρ e' t' (rV ν yInt) mb) : DQ X J ρ (.Compare e [.LtE] [e'] pos) (tOp (rI0 fun i j => .bl (decide (i ≤ j))) t t') (ma.bind fun a => mb.bind fun c => .ok (decide (a ≤ c))) := dq_cmpI op_le (nomark _) ha hb
theorem dq_gt {ma mb : R ε Int} (ha : DE X J ρ e t (rV μ yInt) ma) (hb : DE X J ρ e' t' (rV ν yInt) mb) : DQ X J ρ (.Compare e [.Gt] [e'] pos) (tOp (rI0 fun i j => .bl (decide (j < i))) t t') (ma.bind fun a => mb.bind fun c => .ok (decide (c < a))) := dq_cmpI op_gt (nomark _) ha hb
theorem dq_ge {ma mb : R ε Int} (ha : DE X J ρ e t (rV μ yInt) ma) (hb : DE X J ρ e' t' (rV ν yInt) mb) : DQ X J ρ (.Compare e [.GtE] [e'] pos) (tOp (rI0 fun i j => .bl (decide (j ≤ i))) t t') (ma.bind fun a => mb.bind fun c => .ok (decide (c ≤ a))) := dq_cmpI op_ge (nomark _) ha hb
theorem dq_eqI {ma mb : R ε Int} (ha : DE X J ρ e t (rV μ yInt) ma) (hb : DE X J ρ e' t' (rV ν yInt) mb) : DQ X J ρ (.Compare e [.Eq] [e'] pos) (tOp rEq t t') (ma.bind fun a => mb.bind fun c => .ok (decide (a = c))) :=
  dq_cmp op_eq (nomark _) ha hb fun b F σ H x y v w Q S r1 r2 q => by
    cases r1; cases r2
    refine ⟨rfl, ?_⟩
    rw [show decide (V.int x = V.int y) = decide (x = y) by rw [Bool.eq_iff_iff]; simp]
    exact PostE.here q S rfl
theorem dq_neI {ma mb : R ε Int} (ha : DE X J ρ e t (rV μ yInt) ma) (hb : DE X J ρ e' t' (rV ν yInt) mb) : DQ X J ρ (.Compare e [.NotEq] [e'] pos) (tOp rNe t t') (ma.bind fun a => mb.bind fun c => .ok (!decide (a = c))) :=
  dq_cmp op_ne (nomark _) ha hb fun b F σ H x y v w Q S r1 r2 q => by
    cases r1; cases r2
    refine ⟨rfl, ?_⟩
    rw [show decide (V.int x = V.int y) = decide (x = y) by rw [Bool.eq_iff_iff]; simp]
    exact PostE.here q S rfl
theorem dq_eqS {ma mb : R ε Str} (ha : DE X J ρ e t (rV μ yStr) ma) (hb : DE X J ρ e' t' (rV ν yStr) mb) : DQ X J ρ (.Compare e [.Eq] [e'] pos) (tOp rEq t t') (ma.bind fun a => mb.bind fun c => .ok (decide (a = c))) :=
  dq_cmp op_eq (nomark _) ha hb fun b F σ H x y v w Q S r1 r2 q => by
    obtain ⟨r1, _⟩ := r1; obtain ⟨r2, _⟩ := r2
    cases r1; cases r2
    refine ⟨rfl, ?_⟩
    rw [show decide (V.str x = V.str y) = decide (x = y) by rw [Bool.eq_iff_iff]; simp]
    exact PostE.here q S rfl
theorem dq_neS {ma mb : R ε Str} (ha : DE X J ρ e t (rV μ yStr) ma) (hb : DE X J ρ e' t' (rV ν yStr) mb) : DQ X J ρ (.Compare e [.NotEq] [e'] pos) (tOp rNe t t') (ma.bind fun a => mb.bind fun c => .ok (!decide (a = c))) :=
  dq_cmp op_ne (nomark _) ha hb fun b F σ H x y v w Q S r1 r2 q => by
    obtain ⟨r1, _⟩ := r1; obtain ⟨r2, _⟩ := r2
    cases r1; cases r2
    refine ⟨rfl, ?_⟩
    rw [show decide (V.str x = V.str y) = decide (x = y) by rw [Bool.eq_iff_iff]; simp]
    exact PostE.here q S rfl
/-- is None -/
theorem dq_isN {ma : R ε (Option α)} {j : Nat} {q : Pos} (ha : DE X J ρ e t (rV μ (yOpt T)) ma) : DQ X J ρ (.Compare e [.Is] [.Constant .none j q] pos) (tOp (fun x y H Q => y = .non ∧ Q (.bl (decide (x = .non))) H) t (tC .non)) (ma.bind fun a => .ok a.isNone) :=
  ⟨pe_cmpR op_isN ha.pe pe_non (nomark _), pt_cmpR op_isN ha.pe pe_non (nomark _), ha.ev.op2 (μ := μ) (ν := .p) (U := yNon) (mb := .ok ()) (f := fun a _ => .ok a.isNone) (fun b F σ H Q S q => PostE.here q S rfl) fun b F σ H a i v w Q S r1 r2 q => by
    cases r2
    refine ⟨rfl, ?_⟩
    cases a with
    | none => cases (show v = V.non from r1); exact PostE.here q S rfl
    | some x => rw [decide_eq_false r1.2]; exact PostE.here q S rfl⟩
theorem dq_notN {ma : R ε (Option α)} {j : Nat} {q : Pos} (ha : DE X J ρ e t (rV μ (yOpt T)) ma) : DQ X J ρ (.Compare e [.IsNot] [.Constant .none j q] pos) (tOp (fun x y H Q => y = .non ∧ Q (.bl (!decide (x = .non))) H) t (tC .non)) (ma.bind fun a => .ok a.isSome) :=
  ⟨pe_cmpR op_notN ha.pe pe_non (nomark _), pt_cmpR op_notN ha.pe pe_non (nomark _), ha.ev.op2 (μ := μ) (ν := .p) (U := yNon) (mb := .ok ()) (f := fun a _ => .ok a.isSome) (fun b F σ H Q S q => PostE.here q S rfl) fun b F σ H a i v w Q S r1 r2 q => by
    cases r2
    refine ⟨rfl, ?_⟩
    cases a with
    | none => cases (show v = V.non from r1); exact PostE.here q S rfl
    | some x => rw [decide_eq_false r1.2]; exact PostE.here q S rfl⟩
/-- the value of what is not None -/
def unO {α : Type} : Option α → R ε α
  | some a => .ok a
  | none => .bad
theorem de_some {ma : R ε (Option α)} (ha : DE X J ρ e t (rV μ (yOpt T)) ma) : DE X J ρ e t (rV μ T) (ma.bind unO) :=
  ⟨ha.pe, fun b F σ H Q S q => ha.ev.then_ S q fun a F1 v H1 g1 S1 r1 q1 => by
    cases a with
    | none => exact q1.elim
    | some x => exact PostE.here q1 S1 r1.1⟩
/-- in -/
def rInT (K : PySem.W.Frag) : R2 := fun x y H Q => ∃ d ds, Dp K H x d ∧ Dp K H y (.tuple ds) ∧ SeqAt.shaped d = true ∧ SeqAt.shaped (.tuple ds) = true ∧ Q (.bl (ds.any fun z => PyData.eqv z d)) H
def rNotInT (K : PySem.W.Frag) : R2 := fun x y H Q => ∃ d ds, Dp K H x d ∧ Dp K H y (.tuple ds) ∧ SeqAt.shaped d = true ∧ SeqAt.shaped (.tuple ds) = true ∧ Q (.bl (!ds.any fun z => PyData.eqv z d)) H
theorem op_inT (hu : X.A.units + 65 < cLine) : OpR X (compareOp .In) (rInT X.K) := by
  intro pins s σ H x y v u Q I rx ry h
  obtain ⟨d, ds, hd, he, sd, se, q⟩ := h
  obtain ⟨as, r1⟩ := Dp.reads I d x v hd rx
  obtain ⟨bs, r2⟩ := Dp.reads I (.tuple ds) y u he ry
  exact SeqAt.in_tuple_reads r2 r1 (SeqAt.canLay_of_shaped se) (SeqAt.canLay_of_shaped sd) (room_in_shaped sd hu) ⟨.bl _, H, I, rfl, q⟩
theorem op_notInT (hu : X.A.units + 65 < cLine) : OpR X (compareOp .NotIn) (rNotInT X.K) := by
  intro pins s σ H x y v u Q I rx ry h
  obtain ⟨d, ds, hd, he, sd, se, q⟩ := h
  obtain ⟨as, r1⟩ := Dp.reads I d x v hd rx
  obtain ⟨bs, r2⟩ := Dp.reads I (.tuple ds) y u he ry
  exact SeqAt.notIn_tuple_reads r2 r1 (SeqAt.canLay_of_shaped se) (SeqAt.canLay_of_shaped sd) (room_in_shaped sd hu) ⟨.bl _, H, I, rfl, q⟩
/-- one of a row, by a test of two -/
def isIn (f : α → α → Bool) (a : α) (l : List α) : Bool := l.any fun z => f z a
def memB [DecidableEq α] (a : α) (l : List α) : Bool := decide (a ∈ l)
theorem isIn_dec [DecidableEq α] (a : α) (l : List α) : isIn (fun a b => decide (a = b)) a l = memB a l := by
  unfold isIn memB
  rw [Bool.eq_iff_iff]
  simp
theorem any_py {K : PySem.W.Frag} {T : Ty K α} {P : Pd T} {f : α → α → Bool} (hq : PEq P P f) (a : α) : ∀ l : List α, ((l.map P.py).any fun z => PyData.eqv z (P.py a)) = isIn f a l
  | [] => rfl
  | b :: l => by
    have ih := any_py hq a l
    unfold isIn at ih ⊢
    rw [List.map_cons, List.any_cons, List.any_cons, ih, hq.eq]
variable {f : α → α → Bool} {ml : R ε (List α)}
theorem dq_inL (hq : PEq P P f) (hu : X.A.units + 65 < cLine) (h1 : P.d + 1 ≤ 64 := by decide) (ha : DE X J ρ e t (rV μ T) ma) (hb : DE X J ρ e' t' (rV ν (yLst T)) ml) (hm : behindInMarks .In e' = false := by rfl) :
    DQ X J ρ (.Compare e [.In] [e'] pos) (tOp (rInD X.K) t t') (ma.bind fun a => ml.bind fun l => .ok (isIn f a l)) :=
  dq_cmp (op_inD hu) hm ha hb fun b F σ H x y v w Q' S r1 r2 q => by
    obtain ⟨d1, l1⟩ := P.dp r1
    obtain ⟨d2, l2⟩ := (pLst P).dp r2
    exact ⟨_, _, Dp.mono (Md.le S μ) _ _ d1, Dp.mono (Md.le S ν) _ _ d2, shaped_of l1 (Nat.le_trans (P.dep x) (Nat.le_of_succ_le h1)), shaped_of l2 (Nat.le_trans ((pLst P).dep y) h1), by rw [any_py hq]; exact PostE.here q S rfl⟩
theorem dq_notInL (hq : PEq P P f) (hu : X.A.units + 65 < cLine) (h1 : P.d + 1 ≤ 64 := by decide) (ha : DE X J ρ e t (rV μ T) ma) (hb : DE X J ρ e' t' (rV ν (yLst T)) ml) (hm : behindInMarks .NotIn e' = false := by rfl) :
    DQ X J ρ (.Compare e [.NotIn] [e'] pos) (tOp (rNotInD X.K) t t') (ma.bind fun a => ml.bind fun l => .ok (!isIn f a l)) :=
  dq_cmp (op_notInD hu) hm ha hb fun b F σ H x y v w Q' S r1 r2 q => by
    obtain ⟨d1, l1⟩ := P.dp r1
    obtain ⟨d2, l2⟩ := (pLst P).dp r2
    exact ⟨_, _, Dp.mono (Md.le S μ) _ _ d1, Dp.mono (Md.le S ν) _ _ d2, shaped_of l1 (Nat.le_trans (P.dep x) (Nat.le_of_succ_le h1)), shaped_of l2 (Nat.le_trans ((pLst P).dep y) h1), by rw [any_py hq]; exact PostE.here q S rfl⟩
theorem dq_inT (hq : PEq P P f) (hu : X.A.units + 65 < cLine) (h1 : P.d + 1 ≤ 64 := by decide) (ha : DE X J ρ e t (rV μ T) ma) (hb : DE X J ρ e' t' (rV ν (yTupOf T)) ml) (hm : behindInMarks .In e' = false := by rfl) :
    DQ X J ρ (.Compare e [.In] [e'] pos) (tOp (rInT X.K) t t') (ma.bind fun a => ml.bind fun l => .ok (isIn f a l)) :=
  dq_cmp (op_inT hu) hm ha hb fun b F σ H x y v w Q' S r1 r2 q => by
    obtain ⟨d1, l1⟩ := P.dp r1
    obtain ⟨d2, l2⟩ := (pTupOf P).dp r2
    exact ⟨_, _, Dp.mono (Md.le S μ) _ _ d1, Dp.mono (Md.le S ν) _ _ d2, shaped_of l1 (Nat.le_trans (P.dep x) (Nat.le_of_succ_le h1)), shaped_of l2 (Nat.le_trans ((pTupOf P).dep y) h1), by rw [any_py hq]; exact PostE.here q S rfl⟩
theorem dq_notInT (hq : PEq P P f) (hu : X.A.units + 65 < cLine) (h1 : P.d + 1 ≤ 64 := by decide) (ha : DE X J ρ e t (rV μ T) ma) (hb : DE X J ρ e' t' (rV ν (yTupOf T)) ml) (hm : behindInMarks .NotIn e' = false := by rfl) :
    DQ X J ρ (.Compare e [.NotIn] [e'] pos) (tOp (rNotInT X.K) t t') (ma.bind fun a => ml.bind fun l => .ok (!isIn f a l)) :=
  dq_cmp (op_notInT hu) hm ha hb fun b F σ H x y v w Q' S r1 r2 q => by
    obtain ⟨d1, l1⟩ := P.dp r1
    obtain ⟨d2, l2⟩ := (pTupOf P).dp r2
    exact ⟨_, _, Dp.mono (Md.le S μ) _ _ d1, Dp.mono (Md.le S ν) _ _ d2, shaped_of l1 (Nat.le_trans (P.dep x) (Nat.le_of_succ_le h1)), shaped_of l2 (Nat.le_trans ((pTupOf P).dep y) h1), by rw [any_py hq]; exact PostE.here q S rfl⟩
end
end Cp

/-! The data layer: built-ins, slices, tests. -/
namespace Cp
open PySem PySem.Spec L2
open PyProof.Rows hiding St
variable {K : PySem.W.Frag} {ε : Type}
section
variable {α : Type}
def rCatL (a c : List α) : R ε (List α) := if a.length + c.length ≤ sizeLine then .ok (a ++ c) else .bad
def rRepL (a : List α) (k : Int) : R ε (List α) := if (-(2 ^ 63) ≤ k ∧ k < 2 ^ 63) ∧ a.length * k.toNat ≤ sizeLine then .ok (List.replicate k.toNat a).flatten else .bad
def rLenS (a : Str) : R ε Int := if a.length ≤ sizeLine then .ok (a.length : Int) else .bad
def rSetIx (l : List α) (k : Int) (a : α) : R ε (Nat × α) := match ixN l.length k with | some j => .ok (j, a) | none => .bad
def rIns (l : List α) (a : Int × α) : R ε (Int × α) := if l.length < sizeLine ∧ 0 ≤ a.1 ∧ a.1 < 2 ^ 63 then .ok a else .bad
def rApp (l : List α) (a : α) : R ε α := if l.length < sizeLine then .ok a else .bad
end
section
variable {α β γ : Type}
theorem Eval.cb {J : Jc K ε} {U : Tys K α} {P : Rk K β} {ρ : Ev K} {ta : TA} {m : R ε α} {r : List V → Hp → VK → Prop} {f : α → R ε β} (ha : EvalA J ta ρ U m)
    (hr : ∀ (b : B) (F : Hp) (σ : St) (H : Hp) (x : α) (v : List V) (Q : VK), Sta b ρ F σ H → U.rel x (Gh ρ σ F H) v → PostE J b ρ P F σ H Q (f x) → r v H Q) : Eval J (tCB r ta) ρ P (m.bind f) :=
  fun b F σ H Q S q => ha.then_ S q fun a F1 v H1 g1 S1 r1 q1 => hr b F1 σ H1 a v Q S1 r1 q1
variable {X : Cx} {J : Jc X.K ε} {ρ : Ev X.K} {e e' : Expr} {es : List Expr} {t t' : TE} {ta : TA} {pos p : Pos} {μ ν : Md} {T : Ty X.K α} {m : R ε α}
theorem de_callB {id : String} {x : Str} {r : List V → Hp → VK → Prop} {U : Tys X.K α} {P : Rk X.K β} {f : α → R ε β} (hc : CallR X (.builtin id) r) (hg : Gl X x) (hm : X.mg x = none) (hv : bootBuiltins x = some (.builtin id)) (ha : DA X J ρ (e :: es) ta U m)
    (hr : ∀ (b : B) (F : Hp) (σ : St) (H : Hp) (x : α) (v : List V) (Q : VK), Sta b ρ F σ H → U.rel x (Gh ρ σ F H) v → PostE J b ρ P F σ H Q (f x) → r v H Q)
    (hn : x ≠ "__name__" := by decide) (hdb : (x == ("__debug__" : Str)) = false := by decide) (he : starEach (e :: es) X.env = (false, eval e X.env) :: starEach es X.env := by rfl) (hpl : (backTo pos (starEach es X.env)).any (·.1) = false := by rfl) :
    DE X J ρ (.Call (.Name x p) (e :: es) [] pos) (tCB r ta) P (m.bind f) := ⟨pe_callB hc hg hm hv ha.pa hn hdb he hpl, Eval.cb ha.ev hr⟩
theorem de_callTy {T : String} {x : Str} {r : List V → Hp → VK → Prop} {U : Tys X.K α} {P : Rk X.K β} {f : α → R ε β} (hc : CallR X (.type T) r) (hg : Gl X x) (hm : X.mg x = none) (hv : bootBuiltins x = some (.type T)) (ha : DA X J ρ (e :: es) ta U m)
    (hr : ∀ (b : B) (F : Hp) (σ : St) (H : Hp) (x : α) (v : List V) (Q : VK), Sta b ρ F σ H → U.rel x (Gh ρ σ F H) v → PostE J b ρ P F σ H Q (f x) → r v H Q)
    (hn : x ≠ "__name__" := by decide) (hdb : (x == ("__debug__" : Str)) = false := by decide) (he : starEach (e :: es) X.env = (false, eval e X.env) :: starEach es X.env := by rfl) (hpl : (backTo pos (starEach es X.env)).any (·.1) = false := by rfl) :
    DE X J ρ (.Call (.Name x p) (e :: es) [] pos) (tCB r ta) P (m.bind f) := ⟨pe_callTy hc hg hm hv ha.pa hn hdb he hpl, Eval.cb ha.ev hr⟩
/-- how long a thing is -/
structure Len {α : Type} (T : Ty K α) (n : α → Nat) : Prop where
  len : ∀ {a : α} {F H : Hp} {v : V}, Same F H → T.rel a F v → LenV K v H (n a)
end
section
variable {α β γ : Type} {T : Ty K α}
theorem len_lst : Len (yLst T) List.length := ⟨fun {a F H v} e ⟨p, xs, h1, h2, h3⟩ => by subst h1; exact .inl ⟨xs, .of (e _ _ h2), (Paired.length h3).symm⟩⟩
theorem len_scr : Len (yScr T) List.length := ⟨fun {a F H v} e ⟨p, xs, h1, h2, h3⟩ => by subst h1; exact .inl ⟨xs, Same.seq e h2, (Paired.length h3).symm⟩⟩
theorem len_tupOf : Len (yTupOf T) List.length := ⟨fun {a F H v} e ⟨p, xs, h1, h2, h3⟩ => by subst h1; exact .inr ⟨xs, Same.sqt e h2, (Paired.length h3).symm⟩⟩
end
section
variable {α β γ : Type} {X : Cx} {J : Jc X.K ε} {ρ : Ev X.K} {e e' : Expr} {es : List Expr} {t t' : TE} {ta : TA} {pos p : Pos} {μ ν : Md} {T : Ty X.K α} {m : R ε α}
theorem de_len {n : α → Nat} (hl : Len T n) (hg : Gl X "len") (hm : X.mg "len" = none) (ha : DE X J ρ e t (rV μ T) m) (he : starEach [e] X.env = (false, eval e X.env) :: starEach [] X.env := by rfl) :
    DE X J ρ (.Call (.Name "len" p) [e] [] pos) (tCB (fun xs H Q => ∃ x n, xs = [x] ∧ LenV X.K x H n ∧ Q (.int n) H) (tCons t tNil)) (rP yInt) (m.bind fun a => .ok (n a : Int)) :=
  de_callB call_len hg hm PySem.boot_len (da_one ha he) (fun b F σ H x v Q S ⟨w, e1, r⟩ q => ⟨w, _, e1, hl.len (Gh.le S.fh) r, PostE.here q S rfl⟩) (he := he)
/-- of a text: below the line -/
theorem de_lenS {m : R ε Str} (hg : Gl X "len") (hm : X.mg "len" = none) (ha : DE X J ρ e t (rV μ yStr) m) (he : starEach [e] X.env = (false, eval e X.env) :: starEach [] X.env := by rfl) :
    DE X J ρ (.Call (.Name "len" p) [e] [] pos) (tCB (fun xs H Q => ∃ x n, xs = [x] ∧ LenV X.K x H n ∧ Q (.int n) H) (tCons t tNil)) (rP yInt) (m.bind fun a => rLenS a) :=
  de_callB call_len hg hm PySem.boot_len (da_one ha he) (fun b F σ H x v Q S ⟨w, e1, r⟩ q => by
    obtain ⟨r, _⟩ := r
    subst r
    unfold rLenS at q
    by_cases hz : x.length ≤ sizeLine
    · rw [if_pos hz] at q
      exact ⟨_, _, e1, ⟨hz, rfl⟩, PostE.here q S rfl⟩
    · rw [if_neg hz] at q; exact q.elim) (he := he)
theorem de_int1 {m : R ε Int} (hg : Gl X "int") (hm : X.mg "int" = none) (ha : DE X J ρ e t (rV μ yInt) m) (he : starEach [e] X.env = (false, eval e X.env) :: starEach [] X.env := by rfl) :
    DE X J ρ (.Call (.Name "int" p) [e] [] pos) (tCB (fun xs H Q => (∃ i, xs = [.int i] ∧ Q (.int i) H) ∨ ∃ k, xs = [.bl k] ∧ Q (.int (if k then 1 else 0)) H) (tCons t tNil)) (rP yInt) m :=
  (de_callTy call_int1 hg hm boot_int (da_one ha he) (fun b F σ H x v Q S ⟨w, e1, r⟩ q => by cases r; exact .inl ⟨_, e1, PostE.here q S rfl⟩) (he := he)).cast (bindok _)
theorem de_intB {m : R ε Bool} (hg : Gl X "int") (hm : X.mg "int" = none) (ha : DE X J ρ e t (rV μ yBl) m) (he : starEach [e] X.env = (false, eval e X.env) :: starEach [] X.env := by rfl) :
    DE X J ρ (.Call (.Name "int" p) [e] [] pos) (tCB (fun xs H Q => (∃ i, xs = [.int i] ∧ Q (.int i) H) ∨ ∃ k, xs = [.bl k] ∧ Q (.int (if k then 1 else 0)) H) (tCons t tNil)) (rP yInt) (m.bind fun a => .ok (if a then 1 else 0)) :=
  de_callTy call_int1 hg hm boot_int (da_one ha he) (fun b F σ H x v Q S ⟨w, e1, r⟩ q => by cases r; exact .inr ⟨_, e1, PostE.here q S rfl⟩) (he := he)
theorem de_abs {m : R ε Int} (hg : Gl X "abs") (hm : X.mg "abs" = none) (ha : DE X J ρ e t (rV μ yInt) m) (he : starEach [e] X.env = (false, eval e X.env) :: starEach [] X.env := by rfl) :
    DE X J ρ (.Call (.Name "abs" p) [e] [] pos) (tCB (fun xs H Q => ∃ i, xs = [.int i] ∧ Q (.int (if i < 0 then -i else i)) H) (tCons t tNil)) (rP yInt) (m.bind fun i => .ok (if i < 0 then -i else i)) :=
  de_callB call_abs hg hm (by decide +kernel) (da_one ha he) (fun b F σ H x v Q S ⟨w, e1, r⟩ q => by cases r; exact ⟨_, e1, PostE.here q S rfl⟩) (he := he)
theorem de_max2 {m n : R ε Int} (hc : X.calm = true) (hg : Gl X "max") (hm : X.mg "max" = none) (ha : DE X J ρ e t (rV μ yInt) m) (hb : DE X J ρ e' t' (rV ν yInt) n) (he : starEach [e, e'] X.env = (false, eval e X.env) :: starEach [e'] X.env := by rfl) (he2 : starEach [e'] X.env = (false, eval e' X.env) :: starEach [] X.env := by rfl) (hpl : (backTo pos (starEach [e'] X.env)).any (·.1) = false := by rfl) :
    DE X J ρ (.Call (.Name "max" p) [e, e'] [] pos) (tCB (fun xs H Q => ∃ i j, xs = [.int i, .int j] ∧ Q (.int (if j > i then j else i)) H) (tCons t (tCons t' tNil))) (rP yInt) ((m.bind fun i => n.bind fun j => .ok (i, j)).bind fun p => .ok (if p.2 > p.1 then p.2 else p.1)) :=
  de_callB (call_max2 hc) hg hm (by decide +kernel) (da_cons ha (da_one hb he2) he) (fun b F σ H x v Q S ⟨w, vs, e1, r1, w2, e2, r2⟩ q => by cases r1; cases r2; subst e2; exact ⟨_, _, e1, PostE.here q S rfl⟩) (he := he) (hpl := hpl)
theorem de_min2 {m n : R ε Int} (hc : X.calm = true) (hg : Gl X "min") (hm : X.mg "min" = none) (ha : DE X J ρ e t (rV μ yInt) m) (hb : DE X J ρ e' t' (rV ν yInt) n) (he : starEach [e, e'] X.env = (false, eval e X.env) :: starEach [e'] X.env := by rfl) (he2 : starEach [e'] X.env = (false, eval e' X.env) :: starEach [] X.env := by rfl) (hpl : (backTo pos (starEach [e'] X.env)).any (·.1) = false := by rfl) :
    DE X J ρ (.Call (.Name "min" p) [e, e'] [] pos) (tCB (fun xs H Q => ∃ i j, xs = [.int i, .int j] ∧ Q (.int (if j < i then j else i)) H) (tCons t (tCons t' tNil))) (rP yInt) ((m.bind fun i => n.bind fun j => .ok (i, j)).bind fun p => .ok (if p.2 < p.1 then p.2 else p.1)) :=
  de_callB (call_min2 hc) hg hm (by decide +kernel) (da_cons ha (da_one hb he2) he) (fun b F σ H x v Q S ⟨w, vs, e1, r1, w2, e2, r2⟩ q => by cases r1; cases r2; subst e2; exact ⟨_, _, e1, PostE.here q S rfl⟩) (he := he) (hpl := hpl)

/-! ### new lists -/
/-- items in a list or tuple that are leant on or borrowed; what is made of them is plain where they hold no lists -/
theorem all_back {b : B} {F : Hp} {σ : St} {H : Hp} (hi : T.imm) (S : Sta b ρ F σ H) : ∀ (μ : Md) {l : List α} {xs : List V}, T.all l (μ.hp ρ σ F H) xs → T.all l F xs
  | .p, _, _, r => r
  | .b, _, _, r => imm_all hi (fun p o e nl => by
    have e : Gh ρ σ F H p = some o := e
    unfold Gh at e
    cases q : F p with
    | some u => rw [q] at e; exact e
    | none =>
      rw [q] at e
      simp only at e
      split at e
      case isFalse => cases e
      case isTrue y =>
        obtain ⟨i, s, y1, y2, y3⟩ := y
        obtain ⟨v, y4, y5⟩ := S.sl i s y1
        rw [y3] at y4; cases y4
        cases s with
        | pl T a => cases y2
        | ow C a =>
          obtain ⟨p', o', e1, e2, _, _, e5⟩ := y5
          cases e1
          rw [e] at e2; cases e2
          exact (nl (C.mu e5)).elim) r
theorem rel_back {b : B} {F : Hp} {σ : St} {H : Hp} (hi : T.imm) (S : Sta b ρ F σ H) (μ : Md) {a : α} {v : V} (r : T.rel a (μ.hp ρ σ F H) v) : T.rel a F v := by
  have h : T.all [a] (μ.hp ρ σ F H) [v] := .cons r .nil
  cases all_back hi S μ h with
  | cons r _ => exact r
/-- borrowed data without lists in it is data -/
theorem DE.bp (h : DE X J ρ e t (rB T) m) (hi : T.imm) : DE X J ρ e t (rP T) m :=
  ⟨h.pe, fun b F σ H Q S q => h.ev b F σ H Q S (PostE.conv (f := id) (by rw [show (m.bind fun a => R.ok (id a)) = m from bindok m]; exact q) fun g S' r => ⟨_, g, S', rel_back hi S' .b r⟩)⟩
/-- a list or a tuple -/
structure Sq {α : Type} (T : Ty K α) (U : Ty K (List α)) : Prop where
  sq : ∀ {a : List α} {F H : Hp} {v : V}, Same F H → U.rel a F v → ∃ p xs, v = .ref p ∧ (SqL K H p xs ∨ SqT K H p xs) ∧ T.all a F xs
theorem sq_lst {T : Ty K α} : Sq T (yLst T) := ⟨fun e ⟨p, xs, h1, h2, h3⟩ => ⟨p, xs, h1, .inl (.of (e _ _ h2)), h3⟩⟩
theorem sq_scr {T : Ty K α} : Sq T (yScr T) := ⟨fun e ⟨p, xs, h1, h2, h3⟩ => ⟨p, xs, h1, .inl (Same.seq e h2), h3⟩⟩
theorem sq_tupOf {T : Ty K α} : Sq T (yTupOf T) := ⟨fun e ⟨p, xs, h1, h2, h3⟩ => ⟨p, xs, h1, .inr (Same.sqt e h2), h3⟩⟩
variable {U : Ty X.K (List α)} {ml ml' : R ε (List α)}
theorem new_lst {b : B} {F : Hp} {σ : St} {H : Hp} {Q : VK} {l : List α} {xs : List V} (S : Sta b ρ F σ H) (r : T.all l F xs) (q : PostE J b ρ (rF (cLst T)) F σ H Q (.ok l)) : ∀ p, H p = none → Q (.ref p) (upd H p (.lst xs)) :=
  fun p hp => q F _ _ (Gr.newH hp) (S.newH hp) ⟨p, _, rfl, hp, upd_same, S.freshF hp, xs, rfl, r⟩
theorem new_tup {b : B} {F : Hp} {σ : St} {H : Hp} {Q : VK} {l : List α} {xs : List V} (S : Sta b ρ F σ H) (r : T.all l F xs) (q : PostE J b ρ (rP (yTupOf T)) F σ H Q (.ok l)) : ∀ p, H p = none → Q (.ref p) (upd H p (.tup xs)) :=
  fun p hp => q _ _ _ (Gr.new S.fh hp) (S.new hp) ⟨p, xs, rfl, .of upd_same, Ty.all_mono (same_upd (S.freshF hp)) r⟩
theorem de_list1 (hs : Sq T U) (hi : T.imm) (hg : Gl X "list") (hm : X.mg "list" = none) (ha : DE X J ρ e t (rV μ U) ml) (he : starEach [e] X.env = (false, eval e X.env) :: starEach [] X.env := by rfl) :
    DE X J ρ (.Call (.Name "list" p) [e] [] pos) (tCB (fun xs H Q => ∃ p ys, xs = [.ref p] ∧ (SqL X.K H p ys ∨ SqT X.K H p ys) ∧ ∀ l, H l = none → Q (.ref l) (upd H l (.lst ys))) (tCons t tNil)) (rF (cLst T)) ml :=
  (de_callTy call_list_of hg hm (by decide +kernel) (da_one ha he) (fun b F σ H x v Q S ⟨w, e1, r⟩ q => by
    obtain ⟨p, xs, h1, h2, h3⟩ := hs.sq (Gh.le S.fh) r
    subst h1
    exact ⟨p, xs, e1, h2, new_lst S (all_back hi S .b h3) q⟩) (he := he)).cast (bindok _)
theorem de_tupleL {T : Ty X.K α} {ml : R ε (List α)} (hi : T.imm) (hg : Gl X "tuple") (hm : X.mg "tuple" = none) (ha : DE X J ρ e t (rV μ (yLst T)) ml) (he : starEach [e] X.env = (false, eval e X.env) :: starEach [] X.env := by rfl) :
    DE X J ρ (.Call (.Name "tuple" p) [e] [] pos) (tCB (fun xs H Q => ∃ p ys, xs = [.ref p] ∧ ((SqL X.K H p ys ∧ ∀ l, H l = none → Q (.ref l) (upd H l (.tup ys))) ∨ (SqT X.K H p ys ∧ Q (.ref p) H))) (tCons t tNil)) (rP (yTupOf T)) ml :=
  (de_callTy call_tuple_of hg hm (by decide +kernel) (da_one ha he) (fun b F σ H x v Q S ⟨w, e1, r⟩ q => by
    obtain ⟨p, xs, h1, h2, h3⟩ := r
    subst h1
    exact ⟨p, xs, e1, .inl ⟨.of (Gh.le S.fh _ _ h2), new_tup S (all_back hi S .b h3) q⟩⟩) (he := he)).cast (bindok _)
theorem de_tupleT {T : Ty X.K α} {ml : R ε (List α)} (hi : T.imm) (hg : Gl X "tuple") (hm : X.mg "tuple" = none) (ha : DE X J ρ e t (rV μ (yTupOf T)) ml) (he : starEach [e] X.env = (false, eval e X.env) :: starEach [] X.env := by rfl) :
    DE X J ρ (.Call (.Name "tuple" p) [e] [] pos) (tCB (fun xs H Q => ∃ p ys, xs = [.ref p] ∧ ((SqL X.K H p ys ∧ ∀ l, H l = none → Q (.ref l) (upd H l (.tup ys))) ∨ (SqT X.K H p ys ∧ Q (.ref p) H))) (tCons t tNil)) (rP (yTupOf T)) ml :=
  (de_callTy call_tuple_of hg hm (by decide +kernel) (da_one ha he) (fun b F σ H x v Q S ⟨w, e1, r⟩ q => by
    have r' := rel_back (imm_tupOf hi) S .b r
    obtain ⟨p, xs, h1, h2, h3⟩ := r
    subst h1
    exact ⟨p, xs, e1, .inr ⟨Same.sqt (Gh.le S.fh) h2, PostE.here q S r'⟩⟩) (he := he)).cast (bindok _)
/-- xs + ys -/
theorem de_catL {T : Ty X.K α} {ml ml' : R ε (List α)} (hi : T.imm) (ha : DE X J ρ e t (rV μ (yLst T)) ml) (hb : DE X J ρ e' t' (rV ν (yLst T)) ml') :
    DE X J ρ (.BinOp e .Add e' pos) (tOp rCat t t') (rF (cLst T)) (ml.bind fun a => ml'.bind fun c => rCatL a c) :=
  ⟨pe_op op_cat ha.pe hb.pe, ha.ev.op2 hb.ev fun b F σ H x y v w Q S r1 r2 q => by
    obtain ⟨p, xs, rfl, h2, h3⟩ := r1
    obtain ⟨p', xs', rfl, h2', h3'⟩ := r2
    unfold rCatL at q
    by_cases hz : x.length + y.length ≤ sizeLine
    · rw [if_pos hz] at q
      exact ⟨p, p', xs, xs', rfl, rfl, Md.le S μ _ _ h2, Md.le S ν _ _ h2', by rw [Paired.length h3, Paired.length h3']; exact hz, new_lst S (prd_app (all_back hi S μ h3) (all_back hi S ν h3')) q⟩
    · rw [if_neg hz] at q; exact q.elim⟩
/-- t + u -/
theorem de_catT {T : Ty X.K α} {ml ml' : R ε (List α)} (hi : T.imm) (ha : DE X J ρ e t (rV μ (yTupOf T)) ml) (hb : DE X J ρ e' t' (rV ν (yTupOf T)) ml') :
    DE X J ρ (.BinOp e .Add e' pos) (tOp (rCatA X.K) t t') (rP (yTupOf T)) (ml.bind fun a => ml'.bind fun c => rCatL a c) :=
  ⟨pe_op op_catA ha.pe hb.pe, ha.ev.op2 hb.ev fun b F σ H x y v w Q S r1 r2 q => by
    have r1' := rel_back (imm_tupOf hi) S μ r1
    have r2' := rel_back (imm_tupOf hi) S ν r2
    obtain ⟨p, xs, rfl, h2, h3⟩ := r1
    obtain ⟨p', xs', rfl, h2', h3'⟩ := r2
    unfold rCatL at q
    by_cases hz : x.length + y.length ≤ sizeLine
    · rw [if_pos hz] at q
      have b1 := all_back hi S μ h3
      have b2 := all_back hi S ν h3'
      refine ⟨p, p', xs, xs', rfl, rfl, Same.sqt (Md.le S μ) h2, Same.sqt (Md.le S ν) h2', by rw [Paired.length h3, Paired.length h3']; exact hz, fun z => ?_, fun _ z => ?_, fun _ _ => new_tup S (prd_app b1 b2) q⟩
      · subst z
        cases b1
        exact PostE.here q S r2'
      · subst z
        cases b2
        rw [List.append_nil] at q
        exact PostE.here q S r1'
    · rw [if_neg hz] at q; exact q.elim⟩
/-- xs * k -/
theorem de_rep {T : Ty X.K α} {mi : R ε Int} {ml : R ε (List α)} (hi : T.imm) (ha : DE X J ρ e t (rV μ (yLst T)) ml) (hb : DE X J ρ e' t' (rV ν yInt) mi) :
    DE X J ρ (.BinOp e .Mult e' pos) (tOp rRep t t') (rF (cLst T)) (ml.bind fun a => mi.bind fun k => rRepL a k) :=
  ⟨pe_op op_rep ha.pe hb.pe, ha.ev.op2 hb.ev fun b F σ H x k v w Q S r1 r2 q => by
    obtain ⟨p, xs, rfl, h2, h3⟩ := r1
    cases r2
    unfold rRepL at q
    by_cases hz : (-(2 ^ 63) ≤ k ∧ k < 2 ^ 63) ∧ x.length * k.toNat ≤ sizeLine
    · rw [if_pos hz] at q
      exact ⟨p, k, xs, rfl, rfl, Md.le S μ _ _ h2, hz.1.1, hz.1.2, by rw [Paired.length h3]; exact hz.2, new_lst S (prd_rep (all_back hi S μ h3) _) q⟩
    · rw [if_neg hz] at q; exact q.elim⟩
/-- xs[::-1] -/
theorem de_rev {T : Ty X.K α} {ml : R ε (List α)} {k : Nat} {p1 p2 p3 : Pos} (hi : T.imm) (ha : DE X J ρ e t (rV μ (yLst T)) ml) :
    DE X J ρ (.Subscript e (.Slice none none (some (.UnaryOp .USub (.Constant (.int 1) k p1) p2)) p3) pos) (tRevL X.K t) (rF (cLst T)) (ml.bind fun a => .ok a.reverse) :=
  ⟨pe_revL ha.pe, fun b F σ H Q S q => ha.ev.then_ S q fun a F1 v H1 g1 S1 r1 q1 => by
    obtain ⟨p, xs, rfl, h2, h3⟩ := r1
    exact ⟨p, xs, rfl, .of (Md.le S1 μ _ _ h2), new_lst S1 (prd_rev (all_back hi S1 μ h3)) q1⟩⟩
/-! ### slices -/
def cut {α : Type} (l : List α) (lo hi : Option Int) : List α := (l.drop (HT.sIx l.length 0 lo)).take (HT.sIx l.length l.length hi - HT.sIx l.length 0 lo)
theorem prd_cut {α β : Type} {F : α → β → Prop} {xs : List α} {us : List β} (h : Paired F xs us) (lo hi : Option Int) : Paired F (cut xs lo hi) (cut us lo hi) := by
  unfold cut
  rw [Paired.length h]
  exact prd_take _ (prd_drop _ h)
/-- a bound of a slice -/
structure DO (X : Cx) (J : Jc X.K ε) (ρ : Ev X.K) (e : Option Expr) (t : TO) (m : R ε (Option Int)) : Prop where
  po : PO X e t
  ev : ∀ (b : B) (F : Hp) (σ : St) (H : Hp) (Q : Option Int → Hp → Prop), Sta b ρ F σ H → (match m with
    | .ok a => ∀ F' H', Gr F H F' H' → Sta b ρ F' σ H' → Q a H'
    | .exn e => Pex J b e
    | .bad => False) → t σ H Q
theorem do_none : DO X J ρ none tNoPart (.ok none) := ⟨po_none, fun b F σ H Q S q => q F H (Gr.refl _ _) S⟩
theorem do_some {mi : R ε Int} (h : DE X J ρ e t (rV μ yInt) mi) : DO X J ρ (some e) (tPart t) (mi.bind fun i => .ok (some i)) :=
  ⟨po_some h.pe, fun b F σ H Q S q => h.ev b F σ H _ S (by
    cases mi with
    | ok a => exact fun F' v H' g S' r => ⟨a, r, q F' H' g S'⟩
    | exn e => exact q
    | bad => exact q)⟩
theorem DO.then_ {ρ : Ev X.K} {b : B} {F : Hp} {σ : St} {H : Hp} {Q : VK} {P : Rk X.K β} {lo : Option Expr} {to : TO} {m : R ε (Option Int)} {k : Option Int → R ε β} {R' : Option Int → Hp → Prop} (h : DO X J ρ lo to m) (S : Sta b ρ F σ H) (q : PostE J b ρ P F σ H Q (m.bind k))
    (hk : ∀ a F' H', Gr F H F' H' → Sta b ρ F' σ H' → PostE J b ρ P F' σ H' Q (k a) → R' a H') : to σ H R' := by
  refine h.ev b F σ H R' S ?_
  cases m with
  | ok a => exact fun F' H' g S' => hk a F' H' g S' (PostE.later g q)
  | exn e => exact q
  | bad => exact q
variable {lo hi : Option Expr} {tl th : TO} {m1 m2 : R ε (Option Int)} {p2 : Pos}
theorem de_sliceL {T : Ty X.K α} {ml : R ε (List α)} (im : T.imm) (ha : DE X J ρ e t (rV μ (yLst T)) ml) (hl : DO X J ρ lo tl m1) (hh : DO X J ρ hi th m2) :
    DE X J ρ (.Subscript e (.Slice lo hi none p2) pos) (tSl (rSlL X.K) t tl th) (rF (cLst T)) (ml.bind fun a => m1.bind fun i => m2.bind fun j => .ok (cut a i j)) :=
  ⟨pe_slice sl_list ha.pe hl.po hh.po, fun b F σ H Q S q => ha.ev.then_ S q fun a F1 v H1 g1 S1 r1 q1 => hl.then_ S1 q1 fun i F2 H2 g2 S2 q2 => hh.then_ S2 q2 fun j F3 H3 g3 S3 q3 => by
    have r3 := Ty.mono (yLst T) (Md.mono (g2.trans g3) S1 μ) r1
    obtain ⟨p, xs, rfl, h2, h3⟩ := r3
    exact ⟨p, xs, rfl, .of (Md.le S3 μ _ _ h2), new_lst S3 (prd_cut (all_back im S3 μ h3) i j) q3⟩⟩
theorem cut_whole {γ : Type} {l : List γ} {lo hi : Option Int} (h : HT.sIx l.length 0 lo = 0 ∧ HT.sIx l.length l.length hi = l.length) : cut l lo hi = l := by
  unfold cut
  rw [h.1, h.2, List.drop_zero, Nat.sub_zero, List.take_length]
theorem de_sliceT {T : Ty X.K α} {ml : R ε (List α)} (im : T.imm) (ha : DE X J ρ e t (rV μ (yTupOf T)) ml) (hl : DO X J ρ lo tl m1) (hh : DO X J ρ hi th m2) :
    DE X J ρ (.Subscript e (.Slice lo hi none p2) pos) (tSl (rSlA X.K) t tl th) (rP (yTupOf T)) (ml.bind fun a => m1.bind fun i => m2.bind fun j => .ok (cut a i j)) :=
  ⟨pe_slice sl_tupA ha.pe hl.po hh.po, fun b F σ H Q S q => ha.ev.then_ S q fun a F1 v H1 g1 S1 r1 q1 => hl.then_ S1 q1 fun i F2 H2 g2 S2 q2 => hh.then_ S2 q2 fun j F3 H3 g3 S3 q3 => by
    have r3 := rel_back (imm_tupOf im) S3 μ (Ty.mono (yTupOf T) (Md.mono (g2.trans g3) S1 μ) r1)
    have r4 := r3
    obtain ⟨p, xs, rfl, h2, h3⟩ := r3
    refine ⟨p, xs, rfl, Same.sqt S3.fh h2, fun z => ?_, fun _ => new_tup S3 (prd_cut h3 i j) q3⟩
    rw [Paired.length h3] at z
    rw [cut_whole z] at q3
    exact PostE.here q3 S3 r4⟩

/-! ### tests -/
theorem dt_not {tc : TT} {mc : R ε Bool} (h : DT X J ρ e tc mc) : DT X J ρ (.UnaryOp .Not e pos) (tNot tc) (mc.bind fun c => .ok (!c)) :=
  ⟨pt_not h.pt, fun b F σ H Q S q => h.ev.thenT S q fun c F' H' g S' q' => q' F' H' (Gr.refl _ _) S'⟩
structure DW (X : Cx) (J : Jc X.K ε) (ρ : Ev X.K) (e : Expr) (t : TT) (m : R ε Bool) : Prop where
  pw : PW X e t
  ev : EvalT J t ρ m
theorem DW.dt {tc : TT} {mc : R ε Bool} (h : DW X J ρ e tc mc) : DT X J ρ e tc mc := ⟨h.pw.pt, h.ev⟩
variable {tc td : TT} {mc md : R ε Bool} {rest : List Expr}
theorem dw_and1 (h : DT X J ρ e tc mc) : DW X J ρ (.BoolOp .And [e] pos) tc mc := ⟨pw_and1 h.pt, h.ev⟩
theorem dw_or1 (h : DT X J ρ e tc mc) : DW X J ρ (.BoolOp .Or [e] pos) tc mc := ⟨pw_or1 h.pt, h.ev⟩
theorem dw_and (h : DT X J ρ e tc mc) (h2 : DW X J ρ (.BoolOp .And (e' :: rest) pos) td md) : DW X J ρ (.BoolOp .And (e :: e' :: rest) pos) (tAnd tc td) (mc.bind fun c => if c then md else .ok false) :=
  ⟨pw_and h.pt h2.pw, fun b F σ H Q S q => h.ev.thenT S q fun c F' H' g S' q' => by
    cases c with
    | true => rw [if_pos rfl] at q' ⊢; exact h2.ev b F' σ H' Q S' q'
    | false => rw [if_neg Bool.false_ne_true] at q' ⊢; exact q' F' H' (Gr.refl _ _) S'⟩
theorem dw_or (h : DT X J ρ e tc mc) (h2 : DW X J ρ (.BoolOp .Or (e' :: rest) pos) td md) : DW X J ρ (.BoolOp .Or (e :: e' :: rest) pos) (tOr tc td) (mc.bind fun c => if c then .ok true else md) :=
  ⟨pw_or h.pt h2.pw, fun b F σ H Q S q => h.ev.thenT S q fun c F' H' g S' q' => by
    cases c with
    | false => rw [if_neg Bool.false_ne_true] at q' ⊢; exact h2.ev b F' σ H' Q S' q'
    | true => rw [if_pos rfl] at q' ⊢; exact q' F' H' (Gr.refl _ _) S'⟩
variable {mb : R ε Bool}
theorem de_not {m : R ε Bool} (h : DE X J ρ e t (rP yBl) m) : DE X J ρ (.UnaryOp .Not e pos) (tNotV t) (rP yBl) (m.bind fun c => .ok (!c)) :=
  ⟨pe_not h.pe, fun b F σ H Q S q => h.ev.then_ S q fun c F' v H' g S' r q' => ⟨c, r, PostE.here q' S' rfl⟩⟩
theorem de_one {op : BoolOp} {m : R ε Bool} (h : DE X J ρ e t (rP yBl) m) : DE X J ρ (.BoolOp op [e] pos) t (rP yBl) m := ⟨pe_one h.pe, h.ev⟩
theorem de_and {m : R ε Bool} (h : DE X J ρ e t (rP yBl) m) (h2 : DE X J ρ (.BoolOp .And (e' :: rest) pos) t' (rP yBl) mb) : DE X J ρ (.BoolOp .And (e :: e' :: rest) pos) (tAndV t t') (rP yBl) (m.bind fun c => if c then mb else .ok false) :=
  ⟨pe_and h.pe h2.pe, fun b F σ H Q S q => h.ev.then_ S q fun c F' v H' g S' r q' => ⟨c, r, by
    cases c with
    | true => rw [if_pos rfl] at q' ⊢; exact h2.ev b F' σ H' Q S' q'
    | false => rw [if_neg Bool.false_ne_true] at q' ⊢; exact PostE.here q' S' rfl⟩⟩
theorem de_or {m : R ε Bool} (h : DE X J ρ e t (rP yBl) m) (h2 : DE X J ρ (.BoolOp .Or (e' :: rest) pos) t' (rP yBl) mb) : DE X J ρ (.BoolOp .Or (e :: e' :: rest) pos) (tOrV t t') (rP yBl) (m.bind fun c => if c then .ok true else mb) :=
  ⟨pe_or h.pe h2.pe, fun b F σ H Q S q => h.ev.then_ S q fun c F' v H' g S' r q' => ⟨c, r, by
    cases c with
    | false => rw [if_neg Bool.false_ne_true] at q' ⊢; exact h2.ev b F' σ H' Q S' q'
    | true => rw [if_pos rfl] at q' ⊢; exact PostE.here q' S' rfl⟩⟩
theorem de_if {T : Ty X.K α} {c : Expr} {ma mb : R ε α} (hc : DT X J ρ c tc mc) (ha : DE X J ρ e t (rP T) ma) (hb : DE X J ρ e' t' (rP T) mb) : DE X J ρ (.IfExp c e e' pos) (tIf tc t t') (rP T) (mc.bind fun c => if c then ma else mb) :=
  ⟨pe_ifExp hc.pt ha.pe hb.pe, fun b F σ H Q S q => hc.ev.then_ S q fun c F' H' g S' q' => by
    cases c with
    | true => rw [if_pos rfl] at q' ⊢; exact ha.ev b F' σ H' Q S' q'
    | false => rw [if_neg Bool.false_ne_true] at q' ⊢; exact hb.ev b F' σ H' Q S' q'⟩
/-- a chain a < b < c of ints -/
theorem dq_chain {op op' : CmpOp} {p p' : Int → Int → Bool} {e3 : Expr} {t3 : TE} {m1 m2 m3 : R ε Int} {ξ : Md} (ho : OpR X (compareOp op) (rI0 fun i j => .bl (p i j))) (ho' : OpR X (compareOp op') (rI0 fun i j => .bl (p' i j)))
    (ha : DE X J ρ e t (rV μ yInt) m1) (hb : DE X J ρ e' t' (rV ν yInt) m2) (hc : DE X J ρ e3 t3 (rV ξ yInt) m3)
    (hm : lastMarks [op, op'] [e', e3] = false := by with_unfolding_all rfl) :
    DQ X J ρ (.Compare e [op, op'] [e', e3] pos) (tChain (rI0 fun i j => .bl (p i j)) (rI0 fun i j => .bl (p' i j)) t t' t3) (m1.bind fun i => m2.bind fun j => if p i j then m3.bind fun k => .ok (p' j k) else .ok false) :=
  ⟨pe_chain ho ho' ha.pe hb.pe hc.pe hm, pt_chain ho ho' ha.pe hb.pe hc.pe hm, fun b F σ H Q S q => ha.ev.then_ S q fun i F1 v H1 g1 S1 r1 q1 => hb.ev.then_ S1 q1 fun j F2 w H2 g2 S2 r2 q2 => by
    cases r1; cases r2
    refine ⟨i, j, rfl, rfl, p i j, rfl, ?_⟩
    cases hp : p i j with
    | true =>
      rw [hp, if_pos rfl] at q2
      rw [if_pos rfl]
      exact hc.ev.then_ S2 q2 fun k F3 u H3 g3 S3 r3 q3 => by cases r3; exact ⟨j, k, rfl, rfl, PostE.here q3 S3 rfl⟩
    | false =>
      rw [hp, if_neg Bool.false_ne_true] at q2
      rw [if_neg Bool.false_ne_true]
      exact PostE.here q2 S2 rfl⟩
/-! ### isinstance -/
/-- what isinstance(x, cls) says of data of a type -/
structure Isi {α : Type} (K : PySem.W.Frag) (T : Ty K α) (cls : String) (f : α → Bool) : Prop where
  is : ∀ {a : α} {F H : Hp} {v : V}, Same F H → T.rel a F v → ∃ t, TyX K H v t ∧ PySem.W.kitOne K t (.type cls) = some (f a)
theorem dq_isi {cls : String} {f : α → Bool} {c : Str} {q : Pos} (hi : Isi X.K T cls f) (hg : Gl X "isinstance") (hm : X.mg "isinstance" = none) (hv : bootBuiltins "isinstance" = some (.builtin "isinstance"))
    (gc : Gl X c) (mc : X.mg c = none) (vc : bootBuiltins c = some (.type cls)) (ha : DE X J ρ e t (rV μ T) m) (nc : c ≠ "__name__" := by decide) (dc : (c == ("__debug__" : Str)) = false := by decide)
    (he : starEach [e, .Name c q] X.env = (false, eval e X.env) :: starEach [.Name c q] X.env := by rfl) (he2 : starEach [.Name c q] X.env = (false, eval (.Name c q) X.env) :: starEach [] X.env := by rfl) (hpl : (backTo pos (starEach [.Name c q] X.env)).any (·.1) = false := by rfl) 
    (ht : ∀ whole, isTrue (.Call (.Name "isinstance" p) [e, .Name c q] [] pos) X.env whole = (do let v ← whole; standAt (Expr.Call (.Name "isinstance" p) [e, .Name c q] [] pos).pos; holding [v] (truthy v)) := by intro _; rfl) :
    DQ X J ρ (.Call (.Name "isinstance" p) [e, .Name c q] [] pos) (tCB (rIsi X.K) (tCons t (tCons (tC (.ty cls)) tNil))) (m.bind fun a => .ok (f a)) :=
  dq_val ⟨pe_callB call_isi hg hm hv (pa_cons ha.pe (pa_cons (pe_bltn gc mc vc rfl nc dc) pa_nil he2) he) (by decide) (by decide) he hpl, fun b F σ H Q S q => ha.ev.then_ S q fun a F1 v H1 g1 S1 r1 q1 => by
    obtain ⟨t, h1, h2⟩ := hi.is (Md.le S1 μ) r1
    exact ⟨v, .ty cls, t, _, _, rfl, .ty cls, h1, h2, PostE.here q1 S1 rfl⟩⟩ ht
end
section
variable {α β : Type}
theorem isi_int {cls : String} {b : Bool} (h : kitB "int" cls = some b := by decide +kernel) : Isi K (yInt (K := K)) cls (fun _ => b) := ⟨fun {a F H v} _ r => by cases r; exact ⟨_, .base (.int _), kit_ty h⟩⟩
theorem isi_bl {cls : String} {b : Bool} (h : kitB "bool" cls = some b := by decide +kernel) : Isi K (yBl (K := K)) cls (fun _ => b) := ⟨fun {a F H v} _ r => by cases r; exact ⟨_, .base (.bl _), kit_ty h⟩⟩
theorem isi_str {cls : String} {b : Bool} (h : kitB "str" cls = some b := by decide +kernel) : Isi K (yStr (K := K)) cls (fun _ => b) := ⟨fun {a F H v} _ r => by obtain ⟨r, _⟩ := r; cases r; exact ⟨_, .base (.str _), kit_ty h⟩⟩
theorem isi_non {cls : String} {b : Bool} (h : kitB "NoneType" cls = some b := by decide +kernel) : Isi K (yNon (K := K)) cls (fun _ => b) := ⟨fun {a F H v} _ r => by cases r; exact ⟨_, .base .non, kit_ty h⟩⟩
theorem tyx_tup {F H : Hp} {p : Addr} {xs : List V} (e : Same F H) (h : SqT K F p xs) : TyX K H (.ref p) (.type "tuple") := by
  rcases h with (h | ⟨o, h⟩) | ⟨o, its, n, h1, h2, _⟩
  · exact .base (.tup (e _ _ h))
  · exact .fTuple (e _ _ h)
  · exact .kTuple h1 h2
theorem isi_lst {T : Ty K α} {cls : String} {b : Bool} (h : kitB "list" cls = some b := by decide +kernel) : Isi K (yLst T) cls (fun _ => b) := ⟨fun {a F H v} e ⟨p, xs, h1, h2, h3⟩ => by subst h1; exact ⟨_, .base (.lst (e _ _ h2)), kit_ty h⟩⟩
theorem isi_tupOf {T : Ty K α} {cls : String} {b : Bool} (h : kitB "tuple" cls = some b := by decide +kernel) : Isi K (yTupOf T) cls (fun _ => b) := ⟨fun {a F H v} e ⟨p, xs, h1, h2, h3⟩ => by subst h1; exact ⟨_, tyx_tup e h2, kit_ty h⟩⟩
theorem isi_tup {U : Tys K α} {cls : String} {b : Bool} (h : kitB "tuple" cls = some b := by decide +kernel) : Isi K (yTup U) cls (fun _ => b) := ⟨fun {a F H v} e ⟨p, xs, h1, h2, h3⟩ => by subst h1; exact ⟨_, tyx_tup e h2, kit_ty h⟩⟩
def optB {α : Type} (b : Bool) (f : α → Bool) : Option α → Bool
  | none => b
  | some x => f x
theorem isi_opt {T : Ty K α} {cls : String} {f : α → Bool} {b : Bool} (h : kitB "NoneType" cls = some b := by decide +kernel) (hi : Isi K T cls f) : Isi K (yOpt T) cls (optB b f) := ⟨fun {a F H v} e r => by
  cases a with
  | none => cases (show v = V.non from r); exact ⟨_, .base .non, kit_ty h⟩
  | some x => exact hi.is e r.1⟩
theorem isi_sum {T : Ty K α} {U : Ty K β} {cls : String} {f : α → Bool} {g : β → Bool} (hi : Isi K T cls f) (hj : Isi K U cls g) : Isi K (ySum T U) cls (fun a => match a with | .inl x => f x | .inr y => g y) := ⟨fun {a F H v} e r => by
  cases a with
  | inl x => exact hi.is e r
  | inr x => exact hj.is e r⟩
end
end Cp

/-! The data layer: what loops walk, comprehensions, statements. -/
namespace Cp
open PySem PySem.Spec L2
open PyProof.Rows hiding St
variable {K : PySem.W.Frag} {ε : Type}
section
variable {α β γ : Type} {X : Cx} {J : Jc X.K ε} {ρ : Ev X.K} {e e' : Expr} {es : List Expr} {t t' : TE} {ta : TA} {pos p : Pos} {μ ν : Md} {T : Ty X.K α} {ml : R ε (List α)} {tg : Expr}
/-! ### walks -/
theorem Eval.thenI {J : Jc K ε} {ρ : Ev K} {P : Rk K β} {T : Ty K α} {b : B} {F : Hp} {σ : St} {H : Hp} {Q : It → Hp → Prop} {t : TE} {m : R ε β} {k : β → R ε (List α)} {R' : VK} (h : Eval J t ρ P m) (S : Sta b ρ F σ H) (q : PostI J b ρ T F σ H Q (m.bind k))
    (hk : ∀ a F' v H', Gr F H F' H' → Sta b ρ F' σ H' → P.at_ ρ σ H F' H' a v → PostI J b ρ T F' σ H' Q (k a) → R' v H') : t σ H R' := by
  refine h b F σ H R' S ?_
  cases m with
  | ok a =>
    intro F' v H' g S' r
    refine hk a F' v H' g S' r ?_
    revert q
    show PostI J b ρ T F σ H Q (k a) → _
    generalize k a = z
    intro q
    cases z with
    | ok l => exact fun F'' H'' Jt g' => q F'' H'' Jt (g.trans g')
    | exn e => exact q
    | bad => exact q
  | exn e => exact q
  | bad => exact q
theorem EvalA.thenI {J : Jc K ε} {ρ : Ev K} {U : Tys K β} {T : Ty K α} {b : B} {F : Hp} {σ : St} {H : Hp} {Q : It → Hp → Prop} {t : TA} {m : R ε β} {k : β → R ε (List α)} {R' : List V → Hp → Prop} (h : EvalA J t ρ U m) (S : Sta b ρ F σ H) (q : PostI J b ρ T F σ H Q (m.bind k))
    (hk : ∀ a F' v H', Gr F H F' H' → Sta b ρ F' σ H' → U.rel a (Gh ρ σ F' H') v → PostI J b ρ T F' σ H' Q (k a) → R' v H') : t σ H R' := by
  refine h b F σ H R' S ?_
  cases m with
  | ok a =>
    intro F' v H' g S' r
    refine hk a F' v H' g S' r ?_
    revert q
    show PostI J b ρ T F σ H Q (k a) → _
    generalize k a = z
    intro q
    cases z with
    | ok l => exact fun F'' H'' Jt g' => q F'' H'' Jt (g.trans g')
    | exn e => exact q
    | bad => exact q
  | exn e => exact q
  | bad => exact q
theorem EvalAp.thenI {J : Jc K ε} {ρ : Ev K} {U : Tys K β} {T : Ty K α} {b : B} {F : Hp} {σ : St} {H : Hp} {Q : It → Hp → Prop} {t : TA} {m : R ε β} {k : β → R ε (List α)} {R' : List V → Hp → Prop} (h : EvalAp J t ρ U m) (S : Sta b ρ F σ H) (q : PostI J b ρ T F σ H Q (m.bind k))
    (hk : ∀ a F' v H', Gr F H F' H' → Sta b ρ F' σ H' → U.rel a F' v → PostI J b ρ T F' σ H' Q (k a) → R' v H') : t σ H R' := by
  refine h b F σ H R' S ?_
  cases m with
  | ok a =>
    intro F' v H' g S' r
    refine hk a F' v H' g S' r ?_
    revert q
    show PostI J b ρ T F σ H Q (k a) → _
    generalize k a = z
    intro q
    cases z with
    | ok l => exact fun F'' H'' Jt g' => q F'' H'' Jt (g.trans g')
    | exn e => exact q
    | bad => exact q
  | exn e => exact q
  | bad => exact q
theorem PostI.here {b : B} {F : Hp} {σ : St} {H : Hp} {Q : It → Hp → Prop} {l : List α} {Jt : It} (q : PostI J b ρ T F σ H Q (.ok l)) (S : Sta b ρ F σ H) (w : Walks Jt T l F) : Q Jt H := q F H Jt (Gr.refl _ _) S w
theorem walks_list {p : Addr} {l : List α} {F0 : Hp} {xs : List V} (h : F0 p = some (.lst xs)) (r : T.all l F0 xs) : Walks (Itl X.K p) T l F0 := fun i F H h1 h2 => by
  have hl := Paired.length r
  have sq : SqL X.K H p xs := .of (h2 _ _ (h1 _ _ h))
  refine ⟨fun hi => ?_, fun hi => ⟨xs, sq, by omega⟩⟩
  obtain ⟨v, e1, e2⟩ := all_get r (List.getElem?_eq_getElem hi)
  refine ⟨⟨xs, v, sq, e1⟩, fun x H' ⟨e3, e4⟩ => ?_⟩
  subst e3
  have := e4 xs sq
  rw [e1] at this; cases this
  exact ⟨F, Gr.refl _ _, h2, T.mono h1 e2⟩
theorem walks_tup {p : Addr} {l : List α} {F0 : Hp} {xs : List V} (h : SqT X.K F0 p xs) (r : T.all l F0 xs) : Walks (Itt X.K p) T l F0 := fun i F H h1 h2 => by
  have hl := Paired.length r
  have sq : SqT X.K H p xs := Same.sqt (h1.trans h2) h
  refine ⟨fun hi => ?_, fun hi => ⟨xs, sq, by omega⟩⟩
  obtain ⟨v, e1, e2⟩ := all_get r (List.getElem?_eq_getElem hi)
  refine ⟨⟨xs, v, sq, e1⟩, fun x H' ⟨e3, e4⟩ => ?_⟩
  subst e3
  have := e4 xs sq
  rw [e1] at this; cases this
  exact ⟨F, Gr.refl _ _, h2, T.mono h1 e2⟩
theorem di_list (ha : DE X J ρ e t (rP (yLst T)) ml) (fs : ∀ x, foldedSetIterable e X.env x = pure x := by intro _; rfl) : DI X J ρ tg e (iList X.K t) T ml :=
  ⟨pi_list ha.pe, fun b F σ H Q S q => ha.ev.thenI S (k := fun l => .ok l) (by rw [bindok]; exact q) fun a F' v H' g S' r q' => by
    obtain ⟨p, xs, h1, h2, h3⟩ := r
    exact ⟨p, h1, ⟨xs, .of (S'.fh _ _ h2)⟩, PostI.here q' S' (walks_list h2 h3)⟩, fs⟩
theorem di_tup (ha : DE X J ρ e t (rP (yTupOf T)) ml) (fs : ∀ x, foldedSetIterable e X.env x = pure x := by intro _; rfl) : DI X J ρ tg e (iTup X.K t) T ml :=
  ⟨pi_tup ha.pe, fun b F σ H Q S q => ha.ev.thenI S (k := fun l => .ok l) (by rw [bindok]; exact q) fun a F' v H' g S' r q' => by
    obtain ⟨p, xs, h1, h2, h3⟩ := r
    exact ⟨p, h1, ⟨xs, Same.sqt S'.fh h2⟩, PostI.here q' S' (walks_tup h2 h3)⟩, fs⟩
/-- lo, lo + 1, .. below hi -/
def rng (lo hi : Int) : List Int := (List.range (hi - lo).toNat).map fun (i : Nat) => lo + i
theorem rng_len (lo hi : Int) : (rng lo hi).length = (hi - lo).toNat := by unfold rng; rw [List.length_map, List.length_range]
theorem walks_rng {lo hi : Int} {F0 : Hp} : Walks (Itr lo (hi - lo).toNat) (yInt (K := X.K)) (rng lo hi) F0 := fun i F H h1 h2 => by
  refine ⟨fun h => ⟨by rw [rng_len] at h; exact h, fun x H' ⟨e1, e2⟩ => ?_⟩, fun h => by rw [rng_len] at h; exact h⟩
  subst e1
  refine ⟨F, Gr.refl _ _, h2, ?_⟩
  show x = V.int (rng lo hi)[i]
  rw [e2]
  congr 1
  have h3 : (rng lo hi)[i]? = some (lo + i) := by
    unfold rng
    rw [List.getElem?_map, List.getElem?_range (by rw [rng_len] at h; exact h)]
    rfl
  rw [List.getElem?_eq_getElem h] at h3
  exact (Option.some.inj h3).symm
def fit62 (j : Int) : Bool := decide (-(2 ^ 62) ≤ j ∧ j < 2 ^ 62)
def rRng (lo hi : Int) : R ε (List Int) := if fit62 lo && fit62 hi then .ok (rng lo hi) else .bad
theorem di_range1 {m : R ε Int} (hg : Gl X "range") (hm : X.mg "range" = none) (ha : DE X J ρ e t (rV μ yInt) m) (hs : starEach [e] X.env = (false, eval e X.env) :: starEach [] X.env := by rfl) (fs : ∀ x, foldedSetIterable (.Call (.Name "range" p) [e] [] pos) X.env x = pure x := by intro _; rfl) :
    DI X J ρ tg (.Call (.Name "range" p) [e] [] pos) (iRng1 (tCons t tNil)) yInt (m.bind fun j => rRng 0 j) :=
  ⟨pi_range1 hg hm (pa_cons ha.pe pa_nil hs) hs, fun b F σ H Q S q => ha.ev.thenI S q fun j F' v H' g S' r q' => by
    cases r
    refine ⟨j, rfl, ?_⟩
    unfold rRng at q'
    have h0 : fit62 0 = true := by decide
    rw [h0, Bool.true_and] at q'
    cases hj : fit62 j with
    | false => rw [hj] at q'; exact q'.elim
    | true =>
      rw [hj, if_pos rfl] at q'
      have hj' := of_decide_eq_true hj
      refine ⟨hj'.1, hj'.2, ?_⟩
      have w := walks_rng (X := X) (lo := 0) (hi := j) (F0 := F')
      rw [Int.sub_zero] at w
      exact PostI.here q' S' w, fs⟩
theorem di_range2 {m n : R ε Int} (hg : Gl X "range") (hm : X.mg "range" = none) (ha : DE X J ρ e t (rV μ yInt) m) (hb : DE X J ρ e' t' (rV ν yInt) n) (hs : starEach [e, e'] X.env = (false, eval e X.env) :: starEach [e'] X.env := by rfl) (hs2 : starEach [e'] X.env = (false, eval e' X.env) :: starEach [] X.env := by rfl)
    (hs3 : starEach [e, e'] X.env = [(false, eval e X.env), (false, eval e' X.env)] := by rfl) (fs : ∀ x, foldedSetIterable (.Call (.Name "range" p) [e, e'] [] pos) X.env x = pure x := by intro _; rfl) :
    DI X J ρ tg (.Call (.Name "range" p) [e, e'] [] pos) (iRng2 (tCons t (tCons t' tNil))) yInt (m.bind fun i => n.bind fun j => rRng i j) :=
  ⟨pi_range2 hg hm (pa_cons ha.pe (pa_cons hb.pe pa_nil hs2) hs) hs3 hs2, fun b F σ H Q S q => ha.ev.thenI S q fun i F' v H' g S' r q' => hb.ev.thenI S' q' fun j F2 w H2 g2 S2 r2 q2 => by
    cases r; cases r2
    refine ⟨i, j, rfl, ?_⟩
    unfold rRng at q2
    cases hi : fit62 i with
    | false => rw [hi] at q2; exact q2.elim
    | true =>
      cases hj : fit62 j with
      | false => rw [hi, hj] at q2; exact q2.elim
      | true =>
        rw [hi, hj, Bool.true_and, if_pos rfl] at q2
        have hi' := of_decide_eq_true hi
        have hj' := of_decide_eq_true hj
        exact ⟨⟨hi'.1, hi'.2, hj'.1, hj'.2⟩, PostI.here q2 S2 walks_rng⟩, fs⟩

/-! ### targets -/
/-- several targets, one behind another -/
structure DGs (X : Cx) (ρ : Ev X.K) (ts : List Expr) (g : TGs) (U : Tys X.K α) (ρ' : α → Ev X.K) (ix : List Nat) : Prop where
  pg : PGs X ts g
  ev : ∀ (b : B) (F : Hp) (σ : St) (H : Hp) (vs : List V) (a : α) (Q : St → Hp → Prop), Sta b ρ F σ H → U.rel a F vs → (∀ σ', σ'.length = σ.length → (∀ j, j ∉ ix → σ'[j]? = σ[j]?) → Sta b (ρ' a) F σ' H → Q σ' H) → g vs σ H Q
  kp : ∀ (a : α) (j : Nat), j ∉ ix → (ρ' a)[j]? = ρ[j]?
  pl : ∀ (a : α) (j : Nat) (s : Slt X.K), j ∈ ix → (ρ' a)[j]? = some (some s) → s.isOw = false
theorem dgs_1 {g : TG} {ρ' : α → Ev X.K} {ix : List Nat} (h : DG X ρ e g T ρ' ix) (hs : (assignEach [e] X.env).map (·.2) = assign e X.env :: (assignEach [] X.env).map (·.2) := by rfl) : DGs X ρ [e] (gCons g gNil) (tys1 T) ρ' ix :=
  ⟨pgs_cons h.pg pgs_nil hs, fun b F σ H vs a Q S ⟨v, e1, r⟩ q => ⟨v, [], e1, h.ev b F σ H v a _ S r fun σ' h1 h2 S' => ⟨rfl, q σ' h1 h2 S'⟩⟩, h.kp, h.pl⟩
theorem dgs_c [Inhabited α] {U : Tys X.K β} {g : TG} {gs : TGs} {ρ' : α → Ev X.K} {ρ2 : α → β → Ev X.K} {ix ix' : List Nat} (h : DG X ρ e g T ρ' ix) (hr : ∀ a, DGs X (ρ' a) es gs U (ρ2 a) ix') (hs : (assignEach (e :: es) X.env).map (·.2) = assign e X.env :: (assignEach es X.env).map (·.2) := by rfl) :
    DGs X ρ (e :: es) (gCons g gs) (tysC T U) (fun a => ρ2 a.1 a.2) (ix ++ ix') :=
  ⟨pgs_cons h.pg (hr default).pg hs, fun b F σ H vs a Q S ⟨v, r, e1, r1, r2⟩ q => ⟨v, r, e1, h.ev b F σ H v a.1 _ S r1 fun σ' h1 h2 S' => (hr a.1).ev b F σ' H r a.2 Q S' r2 fun σ'' h3 h4 S'' =>
    q σ'' (h3.trans h1) (fun j hj => (h4 j fun z => hj (List.mem_append_right _ z)).trans (h2 j fun z => hj (List.mem_append_left _ z))) S''⟩, fun a => kp_seq (h.kp a.1) ((hr a.1).kp a.2), fun a => pl_seq (h.pl a.1) ((hr a.1).kp a.2) ((hr a.1).pl a.2)⟩
theorem dg_tup {U : Tys X.K α} {g : TGs} {k : Nat} {ρ' : α → Ev X.K} {ix : List Nat} (hc : X.calm = true) (h : DGs X ρ es g U ρ' ix) (hn : (assignEach es X.env).length = U.n := by rfl) (hst : (assignEach es X.env).findIdx? (·.1) = none := by rfl) :
    DG X ρ (.Tuple es k pos) (gTup X.K U.n g) (yTup U) ρ' ix :=
  ⟨pg_tup hc h.pg hn hst, fun b F σ H v a Q S ⟨p, xs, e1, h2, h3⟩ q => ⟨p, xs, e1, Same.sqt S.fh h2, U.len h3, h.ev b F σ H xs a Q S h3 q⟩, h.kp, h.pl⟩

/-! ### stores -/
theorem ds_set {i : Nat} {x : Str} {pos' : Pos} {m : R ε α} (hN : X.N.Nodup) (hi : X.N[i]? = some x) (hx : Loc X.env.scope x) (h : DE X J ρ e t (rP T) m) (hs : swapsWith e (some (.Name x pos')) pos.line X.env = pure false := by rfl) (hf : X.fn x = true ∨ X.env.scope.names.lookup x = some .local := by first | exact .inl rfl | exact .inr rfl) :
    DS1 X J ρ (.Assign [.Name x pos'] e pos) (tAsg t (gName i)) (fun a => .nx (ρ.set i (some (.pl T a)))) m :=
  ⟨ps_set hN hi hx h.pe hs hf, fun b F σ H D S q => by
    rw [← bindok m] at q
    exact h.ev.thenS S q fun a F' v H' g S' r q' => q' F' _ H' (Same.refl _) (S'.setP r)⟩
theorem ds_setF {i : Nat} {x : Str} {pos' : Pos} {C : Ct X.K α} {m : R ε α} (hN : X.N.Nodup) (hi : X.N[i]? = some x) (hx : Loc X.env.scope x) (h : DE X J ρ e t (rF C) m) (hs : swapsWith e (some (.Name x pos')) pos.line X.env = pure false := by rfl) (hf : X.fn x = true ∨ X.env.scope.names.lookup x = some .local := by first | exact .inl rfl | exact .inr rfl) :
    DS1 X J ρ (.Assign [.Name x pos'] e pos) (tAsg t (gName i)) (fun a => .nx (ρ.set i (some (.ow C a)))) m :=
  ⟨ps_set hN hi hx h.pe hs hf, fun b F σ H D S q => by
    rw [← bindok m] at q
    exact h.ev.thenS S q fun a F' v H' g S' r q' => by
      obtain ⟨p, o, rfl, n, hp, fp, r⟩ := r
      exact q' F' _ H' (Same.refl _) (S'.setO hp fp (S.h0.free n) r (S.fresh_un n))⟩
/-- a, b = e -/
theorem ds_asg {g : TG} {ρ' : α → Ev X.K} {m : R ε α} {ix : List Nat} (h : DE X J ρ e t (rP T) m) (hg : DG X ρ tg g T ρ' ix) (hs : swapsWithSole [tg] e pos.line X.env = pure false := by rfl) (hw : swappedStores [tg] e X.env = pure none := by rfl)
    (h1 : (assignEach [tg] X.env).map (·.2) = [assign tg X.env] := by rfl) : DS1 X J ρ (.Assign [tg] e pos) (tAsg t g) (fun a => .nx (ρ' a)) m :=
  ⟨ps_asg h.pe hg.pg hs hw h1, fun b F σ H D S q => by
    rw [← bindok m] at q
    exact h.ev.thenS S q fun a F' v H' gr S' r q' => hg.ev b F' σ H' v a _ S' r fun σ' _ _ S'' => q' F' σ' H' (Same.refl _) S''⟩
/-- x += e, ints -/
theorem ds_augAdd {i : Nat} {x : Str} {pos' : Pos} {n : Int} {m : R ε Int} (hN : X.N.Nodup) (hi : X.N[i]? = some x) (hx : Loc X.env.scope x) (hρ : ρ[i]? = some (some (.pl yInt n))) (h : DE X J ρ e t (rV μ yInt) m) (hf : X.fn x = true ∨ X.env.scope.names.lookup x = some .local := by first | exact .inl rfl | exact .inr rfl) :
    DS1 X J ρ (.AugAssign (.Name x pos') .Add e pos) (tAug i t (ipI fun i j => i + j)) (fun a => .nx (ρ.set i (some (.pl yInt a)))) (m.bind fun j => .ok (n + j)) :=
  ⟨ps_aug hN hi hx h.pe ip_add hf, fun b F σ H D S q => by
    obtain ⟨v, e1, r⟩ := S.sl i _ hρ
    cases r
    refine ⟨_, e1, h.ev.thenS S q fun a F' v H' g S' r q' => ?_⟩
    cases r
    exact ⟨n, a, rfl, rfl, q' F' _ H' (Same.refl _) (S'.setP rfl)⟩⟩
/-! ### own lists are changed -/
/-- the list of a slot -/
theorem own_list {b : B} {F : Hp} {σ : St} {H : Hp} {i : Nat} {l : List α} {ρ : Ev K} {T : Ty K α} (S : Sta b ρ F σ H) (hi : ρ[i]? = some (some (.ow (cLst T) l))) : ∃ p xs, σ[i]? = some (some (.ref p)) ∧ H p = some (.lst xs) ∧ T.all l F xs := by
  obtain ⟨v, e1, p, o, rfl, h1, h2, h3, xs, rfl, h4⟩ := S.sl i _ hi
  exact ⟨p, xs, e1, h1, h4⟩
theorem tyl {H : Hp} {p : Addr} {xs : List V} (h : H p = some (.lst xs)) : tyV K "list" (.ref p) H := .inl ⟨rfl, _, .of h⟩
/-- a method of an own list, as a statement: what it makes of the list -/
theorem ds_meth1 {name : Str} {id : String} {r : V → List V → Hp → VK → Prop} {i : Nat} {l : List α} {U : Tys X.K β} {l' : γ → List α} {f : β → R ε γ} {m : R ε β} {o : Expr} {apos cpos : Pos} (slot : Slot "list" name id) (hty : typeOf (.builtin id) = pure (.type "method_descriptor")) (hm : MtR X id r)
    (hr : ∀ (b : B) (F : Hp) (σ : St) (H : Hp) (p : Addr) (xs : List V) (a : β) (vs : List V) (Q : VK), Sta b ρ F σ H → H p = some (.lst xs) → T.all l F xs → U.rel a F vs → (match f a with | .ok c => ∀ ys, T.all (l' c) F ys → Q .non (upd H p (.lst ys)) | .exn _ => False | .bad => False) → r (.ref p) vs H Q)
    (hn : ∀ a e, f a ≠ .exn e)
    (ho : PE X o (tVar i)) (hi : ρ[i]? = some (some (.ow (cLst T) l))) (ha : DAp X J ρ (e :: es) ta U m)
    (hbase : attributeBase o name X.env (eval o X.env) = eval o X.env := by rfl)
    (hfew : ((backTo cpos (starEach (e :: es) X.env)).all (fun x => !x.1) && (backToKw cpos (keywordEach [] X.env)).all (fun x => x.1.isSome)
      && decide ((e :: es).length + ([] : List Keyword).length + (if ([] : List Keyword).isEmpty then 0 else 1) < 30)) = true := by rfl)
    (hline : (apos.endLine == cpos.line) = true := by rfl) (hs : starEach (e :: es) X.env = (false, eval e X.env) :: starEach es X.env := by rfl) (hplain : (backTo cpos (starEach es X.env)).any (·.1) = false := by rfl)
    (hsw : swapsWith (.Call (.Attribute o name apos) (e :: es) [] cpos) none pos.line X.env = pure false := by rfl) :
    DS1 X J ρ (.Expr (.Call (.Attribute o name apos) (e :: es) [] cpos) pos) (tDrop (tBM X.K "list" r (tVar i) ta)) (fun c => .nx (ρ.set i (some (.ow (cLst T) (l' c))))) (m.bind f) :=
  ⟨ps_expr (pe_bm PySem.F.plainAttrs_list slot hty hm ho ha.pa hbase hfew hline hs hplain) hsw, fun b F σ H D S q => by
    obtain ⟨p, xs, e1, h1, h2⟩ := own_list S hi
    refine ⟨_, e1, tyl h1, ha.ev b F σ H _ S ?_⟩
    cases m with
    | exn e => exact q
    | bad => exact q
    | ok a =>
      intro F' vs H' g S' r'
      have q' := PostS.later g.f (show PostS J b F D _ (f a) from q)
      obtain ⟨p', xs', e1', h1', h2'⟩ := own_list S' hi
      rw [e1] at e1'; cases e1'
      refine hr b F' σ H' p xs' a vs _ S' h1' h2' r' ?_
      revert q'
      have hn' := hn a
      generalize f a = z at hn' ⊢
      intro q'
      cases z with
      | ok c => exact fun ys hy => q' F' σ _ (Same.refl _) (S'.change hi e1 ⟨ys, rfl, hy⟩)
      | exn e => exact (hn' e rfl).elim
      | bad => exact q'⟩
theorem ds_append {i : Nat} {l : List α} {m : R ε α} {o : Expr} {apos cpos : Pos} (ho : PE X o (tVar i)) (hi : ρ[i]? = some (some (.ow (cLst T) l))) (ha : DE X J ρ e t (rP T) m)
    (hbase : attributeBase o "append" X.env (eval o X.env) = eval o X.env := by rfl)
    (hfew : ((backTo cpos (starEach [e] X.env)).all (fun x => !x.1) && (backToKw cpos (keywordEach [] X.env)).all (fun x => x.1.isSome)
      && decide ([e].length + ([] : List Keyword).length + (if ([] : List Keyword).isEmpty then 0 else 1) < 30)) = true := by rfl)
    (hline : (apos.endLine == cpos.line) = true := by rfl) (hs : starEach [e] X.env = (false, eval e X.env) :: starEach [] X.env := by rfl) (hplain : (backTo cpos (starEach [] X.env)).any (·.1) = false := by rfl)
    (hsw : swapsWith (.Call (.Attribute o "append" apos) [e] [] cpos) none pos.line X.env = pure false := by rfl) :
    DS1 X J ρ (.Expr (.Call (.Attribute o "append" apos) [e] [] cpos) pos) (tDrop (tBM X.K "list" rAppend (tVar i) (tCons t tNil))) (fun c => .nx (ρ.set i (some (.ow (cLst T) (l ++ [c]))))) (m.bind fun a => rApp l a) :=
  ds_meth1 (U := tys1 T) (l' := fun c => l ++ [c]) PySem.F.slot_list_append PySem.F.type_list_append mt_append (fun b F σ H p xs a vs Q S h1 h2 ⟨v, e1, r⟩ q => by
    subst e1
    unfold rApp at q
    by_cases hz : l.length < sizeLine
    · rw [if_pos hz] at q
      exact ⟨p, xs, v, rfl, rfl, h1, by rw [Paired.length h2]; exact hz, q _ (prd_app h2 (.cons r .nil))⟩
    · rw [if_neg hz] at q; exact q.elim) (fun a e h => by unfold rApp at h; split at h <;> cases h) ho hi (dp_one ha hs) hbase hfew hline hs hplain hsw
/-- xs.insert(k, e), 0 <= k -/
theorem ds_insert {i : Nat} {l : List α} {mk : R ε Int} {m : R ε α} {o : Expr} {apos cpos : Pos} (ho : PE X o (tVar i)) (hi : ρ[i]? = some (some (.ow (cLst T) l))) (hk : DE X J ρ e' t' (rP yInt) mk) (ha : DE X J ρ e t (rP T) m)
    (hbase : attributeBase o "insert" X.env (eval o X.env) = eval o X.env := by rfl)
    (hfew : ((backTo cpos (starEach [e', e] X.env)).all (fun x => !x.1) && (backToKw cpos (keywordEach [] X.env)).all (fun x => x.1.isSome)
      && decide ([e', e].length + ([] : List Keyword).length + (if ([] : List Keyword).isEmpty then 0 else 1) < 30)) = true := by rfl)
    (hline : (apos.endLine == cpos.line) = true := by rfl) (hs : starEach [e', e] X.env = (false, eval e' X.env) :: starEach [e] X.env := by rfl) (hs2 : starEach [e] X.env = (false, eval e X.env) :: starEach [] X.env := by rfl) (hplain : (backTo cpos (starEach [e] X.env)).any (·.1) = false := by rfl)
    (hsw : swapsWith (.Call (.Attribute o "insert" apos) [e', e] [] cpos) none pos.line X.env = pure false := by rfl) :
    DS1 X J ρ (.Expr (.Call (.Attribute o "insert" apos) [e', e] [] cpos) pos) (tDrop (tBM X.K "list" (fun x vs H Q => ∃ (l : Addr) (xs : List V) (i : Int) (y : V), x = .ref l ∧ vs = [.int i, y] ∧ H l = some (.lst xs) ∧ xs.length < sizeLine ∧ 0 ≤ i ∧ i < 2 ^ 63 ∧
    Q .non (upd H l (.lst (xs.take i.toNat ++ [y] ++ xs.drop i.toNat)))) (tVar i) (tCons t' (tCons t tNil)))) (fun (c : Int × α) => .nx (ρ.set i (some (.ow (cLst T) (l.take c.1.toNat ++ [c.2] ++ l.drop c.1.toNat))))) ((mk.bind fun k => m.bind fun a => .ok (k, a)).bind fun a => rIns l a) :=
  ds_meth1 (U := tysC yInt (tys1 T)) (l' := fun (c : Int × α) => l.take c.1.toNat ++ [c.2] ++ l.drop c.1.toNat) PySem.F.slot_list_insert PySem.F.type_list_insert mt_insert (fun b F σ H p xs a vs Q S h1 h2 ⟨v, r, e1, r1, w, e2, r2⟩ q => by
    subst e1 e2
    cases r1
    unfold rIns at q
    by_cases hz : l.length < sizeLine ∧ 0 ≤ a.1 ∧ a.1 < 2 ^ 63
    · rw [if_pos hz] at q
      exact ⟨p, xs, a.1, w, rfl, rfl, h1, by rw [Paired.length h2]; exact hz.1, hz.2.1, hz.2.2, q _ (prd_app (prd_app (prd_take _ h2) (.cons r2 .nil)) (prd_drop _ h2))⟩
    · rw [if_neg hz] at q; exact q.elim) (fun a e h => by unfold rIns at h; split at h <;> cases h) ho hi (dp_cons hk (dp_one ha hs2) hs) hbase hfew hline hs hplain hsw
/-- xs.clear() -/
theorem ds_clear {i : Nat} {l : List α} {o : Expr} {apos cpos : Pos} (ho : PE X o (tVar i)) (hi : ρ[i]? = some (some (.ow (cLst T) l)))
    (hbase : attributeBase o "clear" X.env (eval o X.env) = eval o X.env := by rfl) (hline : (apos.endLine == cpos.line) = true := by rfl)
    (hsw : swapsWith (.Call (.Attribute o "clear" apos) [] [] cpos) none pos.line X.env = pure false := by rfl) :
    DS1 X J ρ (.Expr (.Call (.Attribute o "clear" apos) [] [] cpos) pos) (tDrop (tBM0 X.K "list" rClear (tVar i))) (fun (_ : Unit) => .nx (ρ.set i (some (.ow (cLst T) [])))) (.ok ()) :=
  ⟨ps_expr (pe_bm0 PySem.F.plainAttrs_list PySem.F.slot_list_clear PySem.F.type_list_clear mt_clear ho hbase hline) hsw, fun b F σ H D S q => by
    obtain ⟨p, xs, e1, h1, h2⟩ := own_list S hi
    exact ⟨_, e1, tyl h1, p, xs, rfl, rfl, h1, q F σ _ (Same.refl _) (S.change hi e1 ⟨[], rfl, .nil⟩)⟩⟩
theorem ds_reverse {i : Nat} {l : List α} {o : Expr} {apos cpos : Pos} (ho : PE X o (tVar i)) (hi : ρ[i]? = some (some (.ow (cLst T) l)))
    (hbase : attributeBase o "reverse" X.env (eval o X.env) = eval o X.env := by rfl) (hline : (apos.endLine == cpos.line) = true := by rfl)
    (hsw : swapsWith (.Call (.Attribute o "reverse" apos) [] [] cpos) none pos.line X.env = pure false := by rfl) :
    DS1 X J ρ (.Expr (.Call (.Attribute o "reverse" apos) [] [] cpos) pos) (tDrop (tBM0 X.K "list" rReverse (tVar i))) (fun (_ : Unit) => .nx (ρ.set i (some (.ow (cLst T) l.reverse)))) (.ok ()) :=
  ⟨ps_expr (pe_bm0 PySem.F.plainAttrs_list PySem.F.slot_list_reverse PySem.F.type_list_reverse mt_reverse ho hbase hline) hsw, fun b F σ H D S q => by
    obtain ⟨p, xs, e1, h1, h2⟩ := own_list S hi
    exact ⟨_, e1, tyl h1, p, xs, rfl, rfl, h1, q F σ _ (Same.refl _) (S.change hi e1 ⟨_, rfl, prd_rev h2⟩)⟩⟩
/-- xs[k] = e -/
theorem ds_setIx {i : Nat} {l : List α} {mk : R ε Int} {m : R ε α} {o : Expr} {p2 : Pos} (ho : PE X o (tVar i)) (hi : ρ[i]? = some (some (.ow (cLst T) l))) (hk : DE X J ρ e' t' (rP yInt) mk) (ha : DE X J ρ e t (rP T) m)
    (hs : swapsWithSole [.Subscript o e' p2] e pos.line X.env = pure false := by rfl) (hw : swappedStores [.Subscript o e' p2] e X.env = pure none := by rfl) (h1 : (assignEach [.Subscript o e' p2] X.env).map (·.2) = [assign (.Subscript o e' p2) X.env] := by rfl)
    (hA : ∀ v, assign (.Subscript o e' p2) X.env v = (do
      let ov ← holding [v] (eval o X.env)
      let iv ← holding [v, ov] (eval e' X.env)
      standAt p2
      holding [v, ov, iv] (setItem ov iv v)
      release [v, ov, iv] []) := by intro _; rfl) :
    DS1 X J ρ (.Assign [.Subscript o e' p2] e pos) (tAsg t (gSub (tVar i) t' rSetL)) (fun (c : Nat × α) => .nx (ρ.set i (some (.ow (cLst T) (l.set c.1 c.2))))) (m.bind fun a => mk.bind fun k => rSetIx l k a) :=
  ⟨ps_asg ha.pe (pg_sub ho hk.pe set_list hA) hs hw h1, fun b F σ H D S q => ha.ev.thenS S q fun a F1 v H1 g1 S1 r1 q1 => by
    obtain ⟨p, xs, e1, hp, h2⟩ := own_list S1 hi
    refine ⟨_, e1, hk.ev.thenS S1 q1 fun k F2 w H2 g2 S2 r2 q2 => ?_⟩
    cases r2
    obtain ⟨p', xs', e1', hp', h2'⟩ := own_list S2 hi
    rw [e1] at e1'; cases e1'
    unfold rSetIx at q2
    cases z : ixN l.length k with
    | none => rw [z] at q2; exact q2.elim
    | some j =>
      rw [z] at q2
      exact ⟨p, xs', k, j, rfl, rfl, hp', by rw [Paired.length h2']; exact z, q2 F2 σ _ (Same.refl _) (S2.change hi e1 ⟨_, rfl, prd_set (F := fun v a => T.rel a F2 v) (T.mono g2.f r1) j h2'⟩)⟩⟩
/-- an own list is given up -/
theorem ds_give {τ : Type} {I : τ → Oc X.K} {m : R ε τ} {i : Nat} {l : List α} {sts : List Stmt} {ts : TS} (hi : ρ[i]? = some (some (.ow (cLst T) l))) (h : DS X J (ρ.set i (some (.pl (yLst T) l))) sts ts I m) : DS X J ρ sts ts I m :=
  ⟨h.ps, fun b F σ H D S q => by
    obtain ⟨F', sf, S'⟩ := S.give hi cLst_ty
    exact h.ev b F' σ H D S' (PostS.later sf q)⟩
end
end Cp

/-! The data layer: list comprehensions. -/
namespace Cp
open PySem PySem.Spec L2
open PyProof.Rows hiding St
variable {K : PySem.W.Frag} {ε : Type}
/-- nothing is raised -/
def R.noX {ε α : Type} : R ε α → R ε α
  | .ok a => .ok a
  | _ => .bad
section
variable {α β : Type}
def lcM (mt : α → R ε Bool) (f : α → R ε β) : List α → R ε (List β)
  | [] => .ok []
  | x :: l => (mt x).bind fun c => if c then (f x).bind fun y => (lcM mt f l).bind fun r => .ok (y :: r) else lcM mt f l
def mapM' (f : α → R ε β) : List α → R ε (List β)
  | [] => .ok []
  | x :: l => (f x).bind fun y => (mapM' f l).bind fun r => .ok (y :: r)
/-- [f x for x in l if mt x]: at most as many as a list may hold; nothing is raised within -/
def lcR (mt : α → R ε Bool) (f : α → R ε β) (l : List α) : R ε (List β) := if l.length ≤ sizeLine then (lcM mt f l).noX else .bad
theorem lcM_all (f : α → R ε β) : ∀ l : List α, lcM (fun _ => .ok true) f l = mapM' f l
  | [] => rfl
  | x :: l => by
    unfold lcM mapM'
    show (f x).bind _ = _
    rw [lcM_all f l]
end
/-- the slots of a block's own names -/
def wipeE (ρ : Ev K) : List Nat → Ev K
  | [] => ρ
  | v :: vs => (wipeE ρ vs).set v none
section
variable {b : B} {ρ : Ev K} {F : Hp} {σ : St} {H : Hp}
theorem Sta.setN (S : Sta b ρ F σ H) (i : Nat) : Sta b (ρ.set i none) F (σ.set i none) H where
  h0 := S.h0
  f0 := S.f0
  fh := S.fh
  nw := S.nw
  len := by rw [List.length_set, List.length_set]; exact S.len
  sl := fun j s e => by
    rcases getset e with ⟨rfl, q⟩ | ⟨ne, q⟩
    · cases q
    · obtain ⟨w, e1, e2⟩ := S.sl j s q
      exact ⟨w, by rw [List.getElem?_set_ne (Ne.symm ne)]; exact e1, e2⟩
  ds := fun j k s t w e1 e2 o1 o2 e3 e4 => by
    rcases getset e1 with ⟨rfl, q⟩ | ⟨n1, q1⟩
    · cases q
    · rcases getset e2 with ⟨rfl, q⟩ | ⟨n2, q2⟩
      · cases q
      · rw [List.getElem?_set_ne (Ne.symm n1)] at e3
        rw [List.getElem?_set_ne (Ne.symm n2)] at e4
        exact S.ds j k s t w q1 q2 o1 o2 e3 e4
theorem Sta.wipe (S : Sta b ρ F σ H) : ∀ vs : List Nat, Sta b (wipeE ρ vs) F (L2.wipe σ vs) H
  | [] => S
  | v :: vs => by
    have h := (Sta.wipe S vs).setN v
    unfold wipeE L2.wipe
    exact h
theorem wipe_eq {σ σ' : St} : ∀ (vs : List Nat), σ'.length = σ.length → (∀ j, j ∉ vs → σ'[j]? = (L2.wipe σ vs)[j]?) → L2.wipe σ' vs = L2.wipe σ vs := fun vs hl h => by
  have key : ∀ (vs : List Nat) (τ : St) (j : Nat), j ∈ vs → j < τ.length → (L2.wipe τ vs)[j]? = some none := by
    intro vs
    induction vs with
    | nil => intro τ j h; cases h
    | cons v vs ih =>
      intro τ j hj hlt
      unfold L2.wipe
      by_cases e : v = j
      · subst e
        rw [List.getElem?_set_self (by rw [wipe_length]; exact hlt)]
      · rw [List.getElem?_set_ne e]
        rcases List.mem_cons.mp hj with z | z
        · exact (e z.symm).elim
        · exact ih τ j z hlt
  apply List.ext_getElem?
  intro j
  by_cases hj : j ∈ vs
  · by_cases hlt : j < σ.length
    · rw [key vs σ' j hj (by rw [hl]; exact hlt), key vs σ j hj hlt]
    · rw [List.getElem?_eq_none (by rw [wipe_length, hl]; omega), List.getElem?_eq_none (by rw [wipe_length]; omega)]
  · rw [wipe_out hj, h j hj]
/-- an object that nobody leans on changes -/
theorem Sta.chg {p : Addr} {o o' : HO} (S : Sta b ρ F σ H) (fp : F p = none) (bp : b.H0 p = none) (un : ∀ (j : Nat) (s : Slt K), ρ[j]? = some (some s) → s.isOw = true → σ[j]? = some (some (.ref p)) → False) : Sta b ρ F σ (upd H p o') := by
  refine ⟨fun c u e => ?_, S.f0, fun c u e => ?_, S.nw, S.len, fun j s e => ?_, S.ds⟩
  · rw [upd_ne (ne_of_none e bp)]; exact S.h0 _ _ e
  · rw [upd_ne (ne_of_none e fp)]; exact S.fh _ _ e
  · obtain ⟨w, e1, e2⟩ := S.sl j s e
    refine ⟨w, e1, ?_⟩
    cases s with
    | pl T' a' => exact e2
    | ow C' a' =>
      obtain ⟨p', o', rfl, q1, q2, q3, q4⟩ := e2
      refine ⟨p', o', rfl, ?_, q2, q3, q4⟩
      rw [upd_ne]
      · exact q1
      · rintro rfl
        exact un j _ e rfl e1
end
section
variable {α : Type}
/-- walked while no object of the slots changes -/
def WalksC (Jt : It) (T : Ty K α) (l : List α) (F0 H0 : Hp) : Prop := ∀ (i : Nat) (F H : Hp), Same F0 F → Same H0 H → Same F H →
  (∀ h : i < l.length, Jt.go i H ∧ ∀ x H', Jt.yld i H x H' → ∃ F', Gr F H F' H' ∧ Same F' H' ∧ T.rel (l[i]) F' x) ∧ (l.length ≤ i → Jt.stop i H)
def PostIc (J : Jc K ε) (b : B) (ρ : Ev K) (T : Ty K α) (F : Hp) (σ : St) (H : Hp) (Q : It → Hp → Prop) : R ε (List α) → Prop
  | .ok l => ∀ F' H' Jt, Gr F H F' H' → Sta b ρ F' σ H' → WalksC Jt T l F' H' → Q Jt H'
  | .exn e => Pex J b e
  | .bad => False
def EvalIc (J : Jc K ε) (wi : TI) (ρ : Ev K) (T : Ty K α) (m : R ε (List α)) : Prop := ∀ (b : B) (F : Hp) (σ : St) (H : Hp) (Q : It → Hp → Prop), Sta b ρ F σ H → PostIc J b ρ T F σ H Q m → wi σ H Q
structure DIc (X : Cx) (J : Jc X.K ε) (ρ : Ev X.K) (tg iter : Expr) (wi : TI) (T : Ty X.K α) (m : R ε (List α)) : Prop where
  pi : PI X tg iter wi
  ev : EvalIc J wi ρ T m
  fs : ∀ x, foldedSetIterable iter X.env x = pure x
theorem DI.c {X : Cx} {J : Jc X.K ε} {ρ : Ev X.K} {tg iter : Expr} {wi : TI} {T : Ty X.K α} {m : R ε (List α)} (h : DI X J ρ tg iter wi T m) : DIc X J ρ tg iter wi T m :=
  ⟨h.pi, fun b F σ H Q S q => h.ev b F σ H Q S (by
    cases m with
    | ok l => exact fun F' H' Jt g S' w => q F' H' Jt g S' fun i F H h1 _ h3 => w i F H h1 h3
    | exn e => exact q
    | bad => exact q), h.fs⟩
/-- an own list, walked within a display -/
theorem dic_list {X : Cx} {J : Jc X.K ε} {ρ : Ev X.K} {tg e : Expr} {t : TE} {μ : Md} {T : Ty X.K α} {ml : R ε (List α)} (hi : T.imm) (ha : DE X J ρ e t (rV μ (yLst T)) ml) (fs : ∀ x, foldedSetIterable e X.env x = pure x := by intro _; rfl) : DIc X J ρ tg e (iList X.K t) T ml :=
  ⟨pi_list ha.pe, fun b F σ H Q S q => ha.ev b F σ H _ S (by
    cases ml with
    | exn e => exact q
    | bad => exact q
    | ok l =>
      intro F' v H' g S' r
      obtain ⟨p, xs, h1, h2, h3⟩ := r
      have hp := Md.le S' μ _ _ h2
      refine ⟨p, h1, ⟨xs, .of hp⟩, q F' H' _ g S' fun i F2 H2 f1 f2 f3 => ?_⟩
      have r3 := all_back hi S' μ h3
      have hl := Paired.length r3
      have sq : SqL X.K H2 p xs := .of (f2 _ _ hp)
      refine ⟨fun hi => ?_, fun hi => ⟨xs, sq, by omega⟩⟩
      obtain ⟨v, e1, e2⟩ := all_get r3 (List.getElem?_eq_getElem hi)
      refine ⟨⟨xs, v, sq, e1⟩, fun x H3 ⟨e3, e4⟩ => ?_⟩
      subst e3
      have := e4 xs sq
      rw [e1] at this; cases this
      exact ⟨F2, Gr.refl _ _, f3, T.mono f1 e2⟩), fs⟩
end
section
variable {α β γ : Type} [Inhabited α] {X : Cx} {J : Jc X.K ε} {ρ : Ev X.K} {elt tg iter : Expr} {ifs : List Expr} {pos : Pos} {T : Ty X.K α} {U : Ty X.K β} {ml : R ε (List α)} {wi : TI} {g : TG} {tt : TT} {te : TE} {scope : Scope} {own : List (Str × Nat)} {ρ' : α → Ev X.K} {mt : α → R ε Bool} {f : α → R ε β} {ix : List Nat}
theorem lcM_ok {l : List α} {r : List β} {x : α} (h : lcM mt f (x :: l) = .ok r) : ∃ c, mt x = .ok c ∧ if c then ∃ y r', f x = .ok y ∧ lcM mt f l = .ok r' ∧ r = y :: r' else lcM mt f l = .ok r := by
  unfold lcM at h
  cases e1 : mt x with
  | exn e => rw [e1] at h; cases h
  | bad => rw [e1] at h; cases h
  | ok c =>
    rw [e1] at h
    refine ⟨c, rfl, ?_⟩
    cases c with
    | false => exact h
    | true =>
      have h : (f x).bind _ = R.ok r := h
      cases e2 : f x with
      | exn e => rw [e2] at h; cases h
      | bad => rw [e2] at h; cases h
      | ok y =>
        rw [e2] at h
        have h : (lcM mt f l).bind _ = R.ok r := h
        cases e3 : lcM mt f l with
        | exn e => rw [e3] at h; cases h
        | bad => rw [e3] at h; cases h
        | ok r' =>
          rw [e3] at h
          cases h
          exact ⟨y, r', rfl, rfl, rfl⟩
theorem lc_ev (hi : EvalIc J wi ρ T ml) (hg : ∀ (b : B) (F : Hp) (σ : St) (H : Hp) (v : V) (a : α) (Q : St → Hp → Prop), Sta b (wipeE ρ (own.map (·.2))) F σ H → T.rel a F v → (∀ σ', σ'.length = σ.length → (∀ j, j ∉ ix → σ'[j]? = σ[j]?) → Sta b (ρ' a) F σ' H → Q σ' H) → g v σ H Q)
    (hix : ∀ j ∈ ix, j ∈ own.map (·.2)) (ht : ∀ a, EvalT J.no tt (ρ' a) (mt a)) (he : ∀ a, Eval J.no te (ρ' a) (rP U) (f a)) :
    Eval J (tLc wi g tt te (own.map (·.2))) ρ (rF (cLst U)) (ml.bind fun l => lcR mt f l) := fun b F σ H Q S q => by
  refine hi b F σ H _ S ?_
  cases ml with
  | exn e => exact q
  | bad => exact q
  | ok l =>
    intro F1 H1 It1 g1 S1 wk D hD
    have q : PostE J b ρ (rF (cLst U)) F σ H Q (lcR mt f l) := q
    unfold lcR at q
    by_cases hz : l.length ≤ sizeLine
    case neg => rw [if_neg hz] at q; exact q.elim
    rw [if_pos hz] at q
    cases hr : lcM mt f l with
    | exn e => rw [hr] at q; exact q.elim
    | bad => rw [hr] at q; exact q.elim
    | ok r =>
      rw [hr] at q
      have fD : F1 D = none := S1.fh.free hD
      have bD : b.H0 D = none := S1.h0.free hD
      have unD : ∀ (j : Nat) (s : Slt X.K), ρ[j]? = some (some s) → s.isOw = true → σ[j]? = some (some (.ref D)) → False := S1.fresh_un hD
      -- behind i items: F2, H2 have grown, D holds what is done
      refine ⟨fun i m H2 => m = l.length - i ∧ i ≤ l.length ∧ ∃ (F2 : Hp) (acc : List V) (done rest : List β), Same F1 F2 ∧ Sta b ρ F2 σ H2 ∧ (∀ p, (∃ o, H1 p = some o) → F1 p = none → F2 p = none) ∧ Same H1 H2 ∧ F2 D = none ∧ H2 D = some (.lst acc) ∧ U.all done F2 acc ∧ lcM mt f (l.drop i) = .ok rest ∧ r = done ++ rest ∧ acc.length ≤ i, ⟨l.length, by simp, Nat.zero_le _, F1, [], [], r, Same.refl _, S1.newH hD, fun _ _ z => z, same_upd hD, fD, upd_same, .nil, hr, rfl, Nat.le_refl _⟩, ?_⟩
      rintro i m H2 ⟨rfl, hil, F2, acc, done, rest, sf, S2, nF, sh, f2D, h2D, rd, hrest, hrr, hacc⟩
      obtain ⟨wgo, wst⟩ := wk i F2 H2 sf sh S2.fh
      by_cases hlt : i < l.length
      · obtain ⟨go, yld⟩ := wgo hlt
        rw [List.drop_eq_getElem_cons hlt] at hrest
        obtain ⟨c, hc, hcc⟩ := lcM_ok hrest
        refine .inr ⟨go, fun H3 => ∃ (F3 : Hp) (acc : List V) (done rest : List β), Same F1 F3 ∧ Sta b ρ F3 σ H3 ∧ (∀ p, (∃ o, H1 p = some o) → F1 p = none → F3 p = none) ∧ Same H1 H3 ∧ F3 D = none ∧ H3 D = some (.lst acc) ∧ U.all done F3 acc ∧ lcM mt f (l.drop (i + 1)) = .ok rest ∧ r = done ++ rest ∧ acc.length ≤ i + 1, fun H3 h3 => ⟨l.length - (i + 1), by omega, rfl, hlt, h3⟩, fun x H' y => ?_⟩
        obtain ⟨F3, g3, fh3, r3⟩ := yld x H' y
        have S3 := g3.sta S2 fh3
        refine hg b F3 _ H' x _ _ (S3.wipe _) r3 fun σ4 hl4 hj4 S4 => ⟨?_, ?_⟩
        · refine wipe_eq _ (hl4.trans (wipe_length _ _)) fun j hj => hj4 j fun z => hj (hix j z)
        · refine ht _ b F3 σ4 H' _ S4 ?_
          rw [hc]
          intro F5 H5 g5 S5
          have g25 := g3.trans g5
          have S25 := g25.sta S2 S5.fh
          cases c with
          | false =>
            rw [if_neg Bool.false_ne_true] at hcc ⊢
            exact ⟨F5, acc, done, rest, sf.trans g25.f, S25, fun p hp z => g25.n p (by obtain ⟨o, e⟩ := hp; exact ⟨o, sh _ _ e⟩) (nF p hp z), sh.trans g25.h, g25.n D ⟨_, h2D⟩ f2D, g25.h _ _ h2D, Ty.all_mono g25.f rd, hcc, hrr, Nat.le_succ_of_le hacc⟩
          | true =>
            rw [if_pos rfl] at hcc ⊢
            obtain ⟨y, r', hy, hr', hyr⟩ := hcc
            refine he _ b F5 σ4 H5 _ S5 ?_
            rw [hy]
            intro F6 v H6 g6 S6 r6
            have g26 := g25.trans g6
            have S26 := g26.sta S2 S6.fh
            have f6D := g26.n D ⟨_, h2D⟩ f2D
            refine ⟨acc, g26.h _ _ h2D, ?_, F6, acc ++ [v], done ++ [y], r', sf.trans g26.f, S26.chg (o := .lst acc) f6D bD unD, fun p hp z => g26.n p (by obtain ⟨o, e⟩ := hp; exact ⟨o, sh _ _ e⟩) (nF p hp z), ?_, f6D, upd_same, prd_app (Ty.all_mono g26.f rd) (.cons r6 .nil), hr', by rw [hrr, hyr, List.append_assoc]; rfl, by rw [List.length_append]; exact Nat.succ_le_succ hacc⟩
            · omega
            · exact fun p o e => by rw [upd_ne (ne_of_none e hD)]; exact g26.h _ _ (sh _ _ e)
      · have e : i = l.length := by omega
        subst e
        rw [List.drop_length] at hrest
        cases hrest
        rw [List.append_nil] at hrr
        subst hrr
        refine .inl ⟨wst (Nat.le_refl _), ?_⟩
        exact q F2 _ H2 ⟨g1.f.trans sf, g1.h.trans sh, fun p hp z => nF p (by obtain ⟨o, e⟩ := hp; exact ⟨o, g1.h _ _ e⟩) (g1.n p hp z)⟩ S2 ⟨D, _, rfl, g1.h.free hD, h2D, f2D, acc, rfl, rd⟩
/-- the tests of a block -/
structure DTs (X : Cx) (J : Jc X.K ε) (ρ : Ev X.K) (ifs : List Expr) (t : TT) (m : R ε Bool) : Prop where
  pts : PTs X ifs t
  ev : EvalT J t ρ m
theorem dts_nil {X : Cx} {J : Jc X.K ε} {ρ : Ev X.K} : DTs X J ρ [] tYes (.ok true) := ⟨pts_nil, fun b F σ H Q S q => q F H (Gr.refl _ _) S⟩
theorem dts_one {X : Cx} {J : Jc X.K ε} {ρ : Ev X.K} {c : Expr} {t : TT} {m : R ε Bool} (h : DT X J ρ c t m) : DTs X J ρ [c] t m := ⟨pts_one h.pt, h.ev⟩
abbrev Blk (X : Cx) (scope : Scope) (s : Shared) (H : Hp) (C : Addr) (cl : List (Str × Addr)) (fp : List Addr) : Cx := X.blk s H scope (compEnvC scope cl C X.env) fp
theorem de_lc (hc : X.calm = true) (hN : X.N.Nodup) (hi : DIc X J ρ tg iter wi T ml) (ok : BlkOk X.N X.env.scope scope own)
    (hg : ∀ (s : Shared) (H : Hp) (C : Addr) (cl : List (Str × Addr)) (fp : List Addr), DG (Blk X scope s H C cl fp) (wipeE ρ (own.map (·.2))) tg g T ρ' ix) (hix : ∀ j ∈ ix, j ∈ own.map (·.2))
    (ht : ∀ (s : Shared) (H : Hp) (C : Addr) (cl : List (Str × Addr)) (fp : List Addr) (a : α), DTs (Blk X scope s H C cl fp) J.no (ρ' a) ifs tt (mt a))
    (he : ∀ (s : Shared) (H : Hp) (C : Addr) (cl : List (Str × Addr)) (fp : List Addr) (a : α), DE (Blk X scope s H C cl fp) J.no (ρ' a) elt te (rP U) (f a)) :
    DE X J ρ (.ListComp elt [⟨tg, iter, ifs, 0⟩] scope pos) (tLc wi g tt te (own.map (·.2))) (rF (cLst U)) (ml.bind fun l => lcR mt f l) :=
  ⟨pe_lc hc hN hi.pi ok (fun s H C cl fp => (hg s H C cl fp).pg) (fun s H C cl fp => (ht s H C cl fp default).pts) (fun s H C cl fp => (he s H C cl fp default).pe) hi.fs,
    lc_ev hi.ev (hg {} (fun _ => none) 0 [] []).ev hix (fun a => (ht {} (fun _ => none) 0 [] [] a).ev) fun a => (he {} (fun _ => none) 0 [] [] a).ev⟩
/-- y = [..] -/
theorem ds_setLc {i : Nat} {y : Str} {py spos : Pos} (hc : X.calm = true) (hN : X.N.Nodup) (hy : X.N[i]? = some y) (hyl : X.env.scope.names.lookup y = some .local)
    (hsw : swapsWith (.ListComp elt [⟨tg, iter, ifs, 0⟩] scope pos) (some (.Name y py)) spos.line X.env = pure true) (hi : DIc X J ρ tg iter wi T ml) (ok : BlkOk X.N X.env.scope scope own)
    (hg : ∀ (s : Shared) (H : Hp) (C : Addr) (cl : List (Str × Addr)) (fp : List Addr), DG (Blk X scope s H C cl fp) (wipeE ρ (own.map (·.2))) tg g T ρ' ix) (hix : ∀ j ∈ ix, j ∈ own.map (·.2))
    (ht : ∀ (s : Shared) (H : Hp) (C : Addr) (cl : List (Str × Addr)) (fp : List Addr) (a : α), DTs (Blk X scope s H C cl fp) J.no (ρ' a) ifs tt (mt a))
    (he : ∀ (s : Shared) (H : Hp) (C : Addr) (cl : List (Str × Addr)) (fp : List Addr) (a : α), DE (Blk X scope s H C cl fp) J.no (ρ' a) elt te (rP U) (f a)) :
    DS1 X J ρ (.Assign [.Name y py] (.ListComp elt [⟨tg, iter, ifs, 0⟩] scope pos) spos) (tAsg (tLc wi g tt te (own.map (·.2))) (gName i)) (fun a => .nx (ρ.set i (some (.ow (cLst U) a)))) (ml.bind fun l => lcR mt f l) :=
  ⟨ps_setLc hc hN hy hyl hsw hi.pi ok (fun s H C cl fp => (hg s H C cl fp).pg) (fun s H C cl fp => (ht s H C cl fp default).pts) (fun s H C cl fp => (he s H C cl fp default).pe) hi.fs, fun b F σ H D S q => by
    rw [← bindok (ml.bind fun l => lcR mt f l)] at q
    exact (lc_ev hi.ev (hg {} (fun _ => none) 0 [] []).ev hix (fun a => (ht {} (fun _ => none) 0 [] [] a).ev) fun a => (he {} (fun _ => none) 0 [] [] a).ev).thenS S q fun a F' v H' g S' r q' => by
      obtain ⟨p, o, rfl, n, hp, fp, r⟩ := r
      exact q' F' _ H' (Same.refl _) (S'.setO hp fp (S.h0.free n) r (S.fresh_un n))⟩
end
end Cp

/-! The data layer: unpacking of lists, index, sorted of ints, enumerate, zip. -/
namespace CpL
open PySem PySem.Spec PyProof.Rows
section
variable {prog : Program} {w : World} {A : Around} {E : Value → Shared → Prop} {s : Shared}
theorem draw_list {it t : Addr} {items : Array Value} (hne : t ≠ it) : ∀ (n i : Nat) (s : Shared) (Q : List Value → Shared → Prop), s.heap.IsListIter it t i → s.heap.IsList t items → i + n ≤ items.size →
    (∀ h', h'.IsListIter it t (i + n) → Heap.SameBut it s.heap h' → Q ((items.toList.drop i).take n) { s with heap := h' }) → wpAny (model prog w) A (draw (.ref it) n) Q E s
  | 0, i, s, Q, hit, _, _, hQ => by
    show wpAny _ _ (pure []) Q E s
    exact wpAny_pure (by simpa using hQ s.heap hit (Heap.SameBut.refl ..))
  | n + 1, i, s, Q, hit, ht, hle, hQ => by
    have hlt : i < items.size := by omega
    show wpAny _ _ (pyNext (.ref it) >>= _) Q E s
    refine wpAny_bind (wpAny_pyNext_list_item hit ht (x := items[i]) (by simp [hlt]) fun h₁ hit₁ hs₁ => ?_)
    refine wpAny_bind (wpAny_holding (draw_list hne n (i + 1) _ _ hit₁ (ht.extBut hs₁.extBut hne) (by omega) fun h₂ hit₂ hs₂ => wpAny_pure ?_))
    have hd : items.toList.drop i = items[i] :: items.toList.drop (i + 1) := by simp [List.drop_eq_getElem_cons, hlt]
    have := hQ h₂ (by rw [show i + (n + 1) = i + 1 + n by omega]; exact hit₂) (hs₁.trans hs₂)
    rw [hd, List.take_succ_cons] at this
    exact this
theorem unpackItems_list {t : Addr} {items : Array Value} {Q : List Value → Shared → Prop} (hh : A.handled = none) (ht : s.heap.IsList t items)
    (hQ : ∀ h', Heap.ExtBut s.heap.objs.size s.heap h' → Q items.toList { s with heap := h' }) : wpAny (model prog w) A (unpackItems (.ref t) items.size none) Q E s := by
  have hlt : t ≠ s.heap.objs.size := by obtain ⟨o, ho, _⟩ := ht; exact Nat.ne_of_lt (Heap.lt_size ho)
  unfold unpackItems
  refine wpAny_bind ?_
  · unfold notIterableAtAll
    refine wpAny_bind (wpAny_specialOf ht.typeIs slot_list_iter.lookup ?_)
    refine wpAny_pure ?_
    simp only [Bool.false_eq_true, if_false]
    refine wpAny_bind (wpAny_holding (wpAny_pyIter_list ht ?_))
    refine wpAny_bind (wpAny_holding (draw_list hlt items.size 0 _ _ ⟨_, Heap.get?_push_size _ rfl, rfl, rfl⟩ (ht.push _) (by omega) fun h₁ hit₁ hs₁ => ?_))
    have hall : List.take items.size (List.drop 0 items.toList) = items.toList := by
      rw [List.drop_zero]; exact List.take_of_length_le (by simp)
    rw [hall]
    rw [if_neg (by simp)]
    have ht₁ : h₁.IsList t items := (ht.push _).extBut hs₁.extBut hlt
    refine wpAny_bind (wpAny_holding (wpAny_pyNext_list_end hh hit₁ ht₁ (by simp) fun h₂ he₂ => ?_))
    simp only [Option.isSome_none, Bool.false_eq_true, if_false]
    refine wpAny_pure (hQ h₂ fun b o hb e => he₂ b o hb (hs₁.extBut b o hb (Heap.get?_push_of_some _ e)))
theorem unpack_list {t : Addr} {items : Array Value} {targets : List (Bool × (Value → Sem Unit))} {Q : Unit → Shared → Prop} (hh : A.handled = none) (ht : s.heap.IsList t items)
    (hn : targets.length = items.size) (hstar : targets.findIdx? (·.1) = none)
    (h : ∀ h', Heap.ExtBut s.heap.objs.size s.heap h' → wpAny (model prog w) A (assignInOrder (targets.map (·.2)) items.toList) Q E { s with heap := h' }) :
    wpAny (model prog w) A (unpack (.ref t) targets) Q E s := by
  unfold unpack
  rw [hn, hstar]
  exact wpAny_bind (wpAny_holding (unpackItems_list hh ht h))
theorem assign_Tuple_list {env : Env} {elts : List Expr} {x1} {pos : Pos} {t : Addr} {items : Array Value} {Q : Unit → Shared → Prop} (hh : A.handled = none) (ht : s.heap.IsList t items)
    (hn : (assignEach elts env).length = items.size) (hstar : (assignEach elts env).findIdx? (·.1) = none)
    (h : ∀ h', Heap.ExtBut s.heap.objs.size s.heap h' → wpAny (model prog w) A (assignInOrder ((assignEach elts env).map (·.2)) items.toList) Q E { s with heap := h' }) :
    wpAny (model prog w) A (assign (.Tuple elts x1 pos) env (.ref t)) Q E s := by
  rw [assign_Tuple]
  exact wpAny_bind (wpAny_standAt (unpack_list hh ht hn hstar h))
end
end CpL
namespace Cp
open PySem PySem.Spec L2
open PyProof.Rows hiding St
variable {K : PySem.W.Frag} {ε : Type}
section
variable {X : Cx} {pos : Pos}
/-- (a, b, ..) = a list of that length -/
def gLst (K : PySem.W.Frag) (n : Nat) (t : TGs) : TG := fun v σ H Q => ∃ a xs, v = .ref a ∧ SqL K H a xs ∧ xs.length = n ∧ t xs σ H Q
theorem pg_tupL {es : List Expr} {k : Nat} {t : TGs} {n : Nat} (hc : X.calm = true) (h : PGs X es t)
    (hn : (assignEach es X.env).length = n) (hst : (assignEach es X.env).findIdx? (·.1) = none) : PG X (.Tuple es k pos) (gLst X.K n t) := by
  refine ⟨fun pins s σ H v u Q I r hw => ?_⟩
  obtain ⟨a, xs, e1, hq, hl, hw⟩ := hw
  subst e1
  cases r
  obtain ⟨its, rv, ht, hz⟩ := I.list hq
  refine CpL.assign_Tuple_list (I.ok.hd hc) ht.isList (by simp [hn, ← hl, rv.length]) hst fun h' hx => ?_
  have I1 : Inv X pins σ H { s with heap := h' } := I.kept (t' := s.toks) fun b o e => hx b o (Nat.ne_of_lt (Heap.lt_size e)) e
  exact h.run pins _ σ H xs _ Q I1 (by simpa using rv) hw
end
section
variable {α β γ : Type} {X : Cx} {J : Jc X.K ε} {ρ : Ev X.K} {e e' : Expr} {es : List Expr} {t t' : TE} {ta : TA} {pos p : Pos} {μ ν : Md} {T : Ty X.K α} {ml : R ε (List α)} {tg : Expr}
/-- a list of two is told apart -/
def yLst2 {K : PySem.W.Frag} {α : Type} (T : Ty K α) : Ty K (α × α) := ⟨fun a F v => ∃ p x y, v = .ref p ∧ F p = some (.lst [x, y]) ∧ T.rel a.1 F x ∧ T.rel a.2 F y, fun e ⟨p, x, y, h, q, r, z⟩ => ⟨p, x, y, h, e _ _ q, T.mono e r, T.mono e z⟩⟩
def two {α : Type} : List α → R ε (α × α)
  | [a, b] => .ok (a, b)
  | _ => .bad
theorem de_two {m : R ε (List α)} (h : DE X J ρ e t (rV μ (yLst T)) m) : DE X J ρ e t (rV μ (yLst2 T)) (m.bind two) :=
  ⟨h.pe, fun b F σ H Q S q => h.ev.then_ S q fun l F' v H' g S' r q' => by
    obtain ⟨p, xs, h1, h2, h3⟩ := r
    match l, h3, q' with
    | [], _, q' => exact q'.elim
    | [_], _, q' => exact q'.elim
    | _ :: _ :: _ :: _, _, q' => exact q'.elim
    | [a, c], .cons r1 (.cons r2 .nil), q' => exact PostE.here q' S' ⟨p, _, _, h1, h2, r1, r2⟩⟩
theorem dg_two [Inhabited α] {g1 g2 : TG} {ρ1 : α → Ev X.K} {ρ2 : α → α → Ev X.K} {ix ix' : List Nat} {k : Nat} {e1 e2 : Expr} (hc : X.calm = true) (h1 : DG X ρ e1 g1 T ρ1 ix) (h2 : ∀ a, DG X (ρ1 a) e2 g2 T (ρ2 a) ix')
    (hs : (assignEach [e1, e2] X.env).map (·.2) = assign e1 X.env :: (assignEach [e2] X.env).map (·.2) := by rfl) (hs2 : (assignEach [e2] X.env).map (·.2) = assign e2 X.env :: (assignEach [] X.env).map (·.2) := by rfl)
    (hn : (assignEach [e1, e2] X.env).length = 2 := by rfl) (hst : (assignEach [e1, e2] X.env).findIdx? (·.1) = none := by rfl) :
    DG X ρ (.Tuple [e1, e2] k pos) (gLst X.K 2 (gCons g1 (gCons g2 gNil))) (yLst2 T) (fun a => ρ2 a.1 a.2) (ix ++ ix') :=
  ⟨pg_tupL hc (pgs_cons h1.pg (pgs_cons (h2 default).pg pgs_nil hs2) hs) hn hst, fun b F σ H v a Q S ⟨p, x, y, q1, q2, q3, q4⟩ q => ⟨p, [x, y], q1, .of (S.fh _ _ q2), rfl, x, [y], rfl,
    h1.ev b F σ H x a.1 _ S q3 fun σ' l1 l2 S' => ⟨y, [], rfl, (h2 a.1).ev b F σ' H y a.2 _ S' q4 fun σ'' l3 l4 S'' => ⟨rfl,
      q σ'' (l3.trans l1) (fun j hj => (l4 j fun z => hj (List.mem_append_right _ z)).trans (l2 j fun z => hj (List.mem_append_left _ z))) S''⟩⟩⟩, fun a => kp_seq (h1.kp a.1) ((h2 a.1).kp a.2), fun a => pl_seq (h1.pl a.1) ((h2 a.1).kp a.2) ((h2 a.1).pl a.2)⟩
/-! ### index -/
def rIndex [DecidableEq α] (l : List α) (a : α) : R ε Int := if a ∈ l then .ok (l.idxOf a : Nat) else .bad
theorem de_index {inst : DecidableEq α} {P : Pd T} {m : R ε α} {o : Expr} {to : TE} {apos cpos : Pos} (hq : PEq P P fun a b => decide (a = b)) (hu : X.A.units + 65 < cLine) (hd : P.d + 1 ≤ 64) (ho : DE X J ρ o to (rV μ (yLst T)) ml) (ha : DE X J ρ e t (rV ν T) m)
    (hbase : attributeBase o "index" X.env (eval o X.env) = eval o X.env := by rfl)
    (hfew : ((backTo cpos (starEach [e] X.env)).all (fun x => !x.1) && (backToKw cpos (keywordEach [] X.env)).all (fun x => x.1.isSome)
      && decide ([e].length + ([] : List Keyword).length + (if ([] : List Keyword).isEmpty then 0 else 1) < 30)) = true := by rfl)
    (hline : (apos.endLine == cpos.line) = true := by rfl) (hs : starEach [e] X.env = (false, eval e X.env) :: starEach [] X.env := by rfl) (hplain : (backTo cpos (starEach [] X.env)).any (·.1) = false := by rfl) :
    DE X J ρ (.Call (.Attribute o "index" apos) [e] [] cpos) (tBM X.K "list" (rIndexD X.K) to (tCons t tNil)) (rP yInt) (ml.bind fun l => m.bind fun a => rIndex l a) :=
  ⟨pe_bm PySem.F.plainAttrs_list PySem.F.slot_list_index PySem.F.type_list_index (mt_indexD hu) ho.pe (pa_cons ha.pe pa_nil hs) hbase hfew hline hs hplain, fun b F σ H Q S q => ho.ev.then_ S q fun l F1 v H1 g1 S1 r1 q1 => by
    have r1' := r1
    obtain ⟨p, xs, rfl, h2, h3⟩ := r1
    refine ⟨tyl (Md.le S1 μ _ _ h2), ha.ev.then_ S1 q1 fun a F2 w H2 g2 S2 r2 q2 => ?_⟩
    unfold rIndex at q2
    by_cases hm : a ∈ l
    · rw [if_pos hm] at q2
      have r3 := Ty.mono (yLst T) (Md.mono g2 S1 μ) r1'
      obtain ⟨d1, l1⟩ := (pLst P).dp r3
      obtain ⟨d2, l2⟩ := P.dp r2
      have hlt : l.idxOf a < l.length := List.idxOf_lt_length_iff.mpr hm
      refine ⟨p, w, P.py a, l.map P.py, l.idxOf a, P.py a, rfl, rfl, Dp.mono (Md.le S2 μ) _ _ d1, Dp.mono (Md.le S2 ν) _ _ d2, shaped_of l1 (Nat.le_trans ((pLst P).dep l) hd), shaped_of l2 (Nat.le_trans (P.dep a) (Nat.le_of_succ_le hd)), ?_, ?_, fun k z hk hz => ?_, PostE.here q2 S2 rfl⟩
      · rw [List.getElem?_map, List.getElem?_eq_getElem hlt, List.getElem_idxOf hlt]; rfl
      · rw [hq.eq]; exact decide_eq_true rfl
      · rw [List.getElem?_map] at hz
        have hk2 : k < l.length := Nat.lt_trans hk hlt
        rw [List.getElem?_eq_getElem hk2] at hz
        cases hz
        rw [hq.eq]
        refine decide_eq_false fun e => ?_
        have := List.not_of_lt_findIdx (p := (· == a)) (xs := l) (i := k) hk
        simp [e] at this
    · rw [if_neg hm] at q2; exact q2.elim⟩
/-! ### sorted of ints -/
def sortI (l : List Int) : List Int := l.mergeSort (fun a b => decide (a ≤ b))
theorem sortI_perm (l : List Int) : (sortI l).Perm l := List.mergeSort_perm l _
theorem sortI_pw (l : List Int) : (sortI l).Pairwise (· ≤ ·) := by
  have h := List.pairwise_mergeSort (le := fun (a b : Int) => decide (a ≤ b)) (fun a b c h1 h2 => by simp at *; omega) (fun a b => by simp; omega) l
  exact h.imp fun h => by simpa using h
theorem sortI_uniq : ∀ {l l' : List Int}, l.Perm l' → l.Pairwise (· ≤ ·) → l'.Pairwise (· ≤ ·) → l = l'
  | [], l', p, _, _ => by simpa using p.symm.eq_nil
  | a :: l, [], p, _, _ => by simpa using p.eq_nil
  | a :: l, b :: l', p, h1, h2 => by
    have h1' := List.pairwise_cons.mp h1
    have h2' := List.pairwise_cons.mp h2
    have e : a = b := by
      have m1 : a ∈ b :: l' := p.subset List.mem_cons_self
      have m2 : b ∈ a :: l := p.symm.subset List.mem_cons_self
      rcases List.mem_cons.mp m1 with z | z
      · exact z
      · rcases List.mem_cons.mp m2 with y | y
        · exact y.symm
        · have := h1'.1 b y
          have := h2'.1 a z
          omega
    subst e
    rw [sortI_uniq ((List.perm_cons a).mp p) h1'.2 h2'.2]
theorem all_int {F : Hp} : ∀ {l : List Int} {xs : List V}, (yInt (K := K)).all l F xs → xs = l.map V.int
  | _, _, .nil => rfl
  | _, _, .cons r t => by cases r; rw [all_int t]; rfl
theorem all_intI {F : Hp} : ∀ l : List Int, (yInt (K := K)).all l F (l.map V.int)
  | [] => .nil
  | i :: l => .cons rfl (all_intI l)
theorem de_sortedI {U : Ty X.K (List Int)} {m : R ε (List Int)} (hsq : ∀ {a : List Int} {F H : Hp} {v : V}, Same F H → U.rel a F v → ∃ p xs, v = .ref p ∧ SqL X.K H p xs ∧ (yInt (K := X.K)).all a F xs) (hg : Gl X "sorted") (hm : X.mg "sorted" = none) (ha : DE X J ρ e t (rV μ U) m) (he : starEach [e] X.env = (false, eval e X.env) :: starEach [] X.env := by rfl) :
    DE X J ρ (.Call (.Name "sorted" p) [e] [] pos) (tCB (rSortedI X.K) (tCons t tNil)) (rF (cLst yInt)) (m.bind fun a => .ok (sortI a)) :=
  de_callB cr_sortedI hg hm (by decide +kernel) (da_one ha he) (fun b F σ H x v Q S ⟨w, e1, r⟩ q => by
    obtain ⟨p, xs, h1, h2, h3⟩ := hsq (Gh.le S.fh) r
    subst h1
    have e3 := all_int h3
    subst e3
    refine ⟨p, x, e1, h2, fun ns' p' hp hs hn => ?_⟩
    have e4 : ns' = sortI x := sortI_uniq (hp.trans (sortI_perm x).symm) hs (sortI_pw x)
    rw [e4]
    exact new_lst S (all_intI _) q p' hn) (he := he)
theorem sql_lst {K : PySem.W.Frag} {T : Ty K α} {a : List α} {F H : Hp} {v : V} (e : Same F H) (h : (yLst T).rel a F v) : ∃ p xs, v = .ref p ∧ SqL K H p xs ∧ T.all a F xs := by
  obtain ⟨p, xs, h1, h2, h3⟩ := h
  exact ⟨p, xs, h1, .of (e _ _ h2), h3⟩

/-! ### enumerate -/
def yEnum {K : PySem.W.Frag} {α : Type} (T : Ty K α) : Ty K (Int × α) := yTup (tysC yInt (tys1 T))
def enumI {α : Type} (l : List α) : List (Int × α) := l.zipIdx.map fun p => (((p.2 : Nat) : Int), p.1)
theorem enumI_len {α : Type} (l : List α) : (enumI l).length = l.length := by unfold enumI; rw [List.length_map, List.length_zipIdx]
theorem enumI_get {α : Type} (l : List α) (i : Nat) (h : i < l.length) : (enumI l)[i]? = some (((i : Nat) : Int), l[i]) := by
  unfold enumI
  rw [List.getElem?_map, List.getElem?_zipIdx, List.getElem?_eq_getElem h]
  simp
theorem walks_enum {p : Addr} {l : List α} {F0 : Hp} {xs : List V} (h : F0 p = some (.lst xs)) (r : T.all l F0 xs) : Walks (Ite X.K p) (yEnum T) (enumI l) F0 := fun i F H h1 h2 => by
  have hl := Paired.length r
  have sq : SqL X.K H p xs := .of (h2 _ _ (h1 _ _ h))
  refine ⟨fun hi => ?_, fun hi => ⟨xs, sq, by rw [enumI_len] at hi; omega⟩⟩
  rw [enumI_len] at hi
  obtain ⟨v, e1, e2⟩ := all_get r (List.getElem?_eq_getElem hi)
  refine ⟨⟨xs, v, sq, e1⟩, fun x H' ⟨T', y, h3, h4, h5, h6⟩ => ?_⟩
  subst h3 h5
  have := h6 xs sq
  rw [e1] at this; cases this
  refine ⟨_, Gr.new h2 h4, same_upd2 h2 h4, ?_⟩
  have e3 := enumI_get l i hi
  rw [List.getElem?_eq_getElem (by rw [enumI_len]; exact hi)] at e3
  rw [Option.some.inj e3]
  exact ⟨T', _, rfl, .of upd_same, _, _, rfl, rfl, v, rfl, T.mono (h1.trans (same_upd (h2.free h4))) e2⟩
theorem di_enum {elts : List Expr} {kk : Nat} {tpos : Pos} (hg : Gl X "enumerate") (hm : X.mg "enumerate" = none) (ha : DE X J ρ e t (rP (yLst T)) ml) (hs : starEach [e] X.env = (false, eval e X.env) :: starEach [] X.env := by rfl) (fs : ∀ x, foldedSetIterable (.Call (.Name "enumerate" p) [e] [] pos) X.env x = pure x := by intro _; rfl) :
    DI X J ρ (.Tuple elts kk tpos) (.Call (.Name "enumerate" p) [e] [] pos) (iEnum X.K (tCons t tNil)) (yEnum T) (ml.bind fun l => .ok (enumI l)) :=
  ⟨pi_enum hg hm (pa_cons ha.pe pa_nil hs) hs, fun b F σ H Q S q => ha.ev.thenI S q fun a F' v H' g S' r q' => by
    obtain ⟨p, xs, h1, h2, h3⟩ := r
    exact ⟨p, xs, by rw [h1], .of (S'.fh _ _ h2), PostI.here q' S' (walks_enum h2 h3)⟩, fs⟩
/-! ### corners compared -/
abbrev Cn := Int × Int
abbrev yCn {K : PySem.W.Frag} : Ty K Cn := yTup (tysC yInt (tys1 yInt))
def ltC (a b : Cn) : Bool := decide (a.1 < b.1 ∨ (a.1 = b.1 ∧ a.2 < b.2))
theorem lex2 (a b c d : Int) : HT.lexLt [a, b] [c, d] = ltC (a, b) (c, d) := by
  simp only [HT.lexLt, ltC]
  rw [Bool.eq_iff_iff]
  by_cases h : a = c
  · subst h; simp; omega
  · simp [h]
theorem dq_ltC {m n : R ε Cn} (hu : X.A.units < cLine) (ha : DE X J ρ e t (rV μ yCn) m) (hb : DE X J ρ e' t' (rV ν yCn) n) :
    DQ X J ρ (.Compare e [.Lt] [e'] pos) (tOp (rLtT X.K) t t') (m.bind fun a => n.bind fun c => .ok (ltC a c)) :=
  dq_cmp (op_ltT hu) (nomark _) ha hb fun b F σ H x y v w Q S r1 r2 q => by
    obtain ⟨p, xs, rfl, h2, x1, xr, rfl, h3, x2, rfl, h4⟩ := r1
    obtain ⟨p', xs', rfl, h2', y1, yr, rfl, h3', y2, rfl, h4'⟩ := r2
    cases h3; cases h4; cases h3'; cases h4'
    refine ⟨p, p', [x.1, x.2], [y.1, y.2], rfl, rfl, Same.sqt (Md.le S μ) h2, Same.sqt (Md.le S ν) h2', ?_⟩
    rw [lex2]
    exact PostE.here q S rfl
end
end Cp

/-! The data layer: small things that printed proofs lean on. -/
namespace Cp
open PySem PySem.Spec L2
open PyProof.Rows hiding St
variable {K : PySem.W.Frag} {ε : Type}
section
variable {α β γ τ τ' s θ : Type} {X : Cx} {J : Jc X.K ε} {ρ ρ' : Ev X.K} {I : τ → Oc X.K} {pos : Pos} {st : Stmt} {rest : List Stmt} {t u : TS}
theorem u0 {k : Nat} {A : Around} (r : Room k A) : A.units < cLine := r.units0
theorem u64 {k : Nat} {A : Around} (r : Room k A) : A.units + 64 < cLine := r.units
theorem u65 {k : Nat} {A : Around} (r : Room k A) : A.units + 65 < cLine := by have := r.un; omega
theorem wkN {ρ : Ev K} {n : Nat} (h : ρ.length = n) : Wk ρ (nones n) := by
  subst h
  induction ρ with
  | nil => exact .nil
  | cons s ρ ih => exact .drop ih
theorem passC0 {E : St → XK} : ∀ σ, PassesAt CX0 X σ (E σ) := fun _ _ _ _ _ _ _ h => h.elim
/-- a def of the program as the others see it -/
structure Cal (P : Program) (w : World) (K : PySem.W.Frag) (mg : Str → Option Value) (base : Heap) (CX : CXT) (k : Nat) (x : Str) (ps : List Str) (sp : Sp) where
  f : Addr
  fd : FuncData
  ok : FnOk P w K mg base CX k f fd ps sp
  mg : mg x = some (.ref f)
  kp : PySem.W.keepIn K (.ref f) = true
  bd : Binds K fd ps []
/-- behind a statement that may leave -/
def R.seqX {ε α β τ : Type} (m : R ε (α ⊕ β)) (f : β → τ) (k : α → R ε τ) : R ε τ := m.bind fun a => match a with | .inl a => k a | .inr c => .ok (f c)
theorem ds_seqX [Inhabited α] {ρ1 : α → Ev X.K} {m : R ε (α ⊕ β)} {f : β → τ} {k : α → R ε τ} (h : DS1 X J ρ st t (ocX ρ1 fun c => (I (f c)).noNx) m) (hr : ∀ a, DS X J (ρ1 a) rest u I (k a)) (hJ : ∀ c, (I (f c)).isNx = false ∧ True) :
    DS X J ρ (st :: rest) (tSeq t u) I (m.seqX f k) := ds_seq h hr fun c => ⟨rfl, (hJ c).1⟩
/-- a slot seen as another type -/
theorem ds_conv {T : Ty X.K α} {U : Ty X.K β} {a : α} {f : α → β} {m : R ε τ} {i : Nat} {sts : List Stmt} {ts : TS} (hi : ρ[i]? = some (some (.pl T a))) (hc : ∀ {F v}, T.rel a F v → U.rel (f a) F v) (h : DS X J (ρ.set i (some (.pl U (f a)))) sts ts I m) : DS X J ρ sts ts I m :=
  ⟨h.ps, fun b F σ H D S q => by
    obtain ⟨v, e1, r⟩ := S.sl i _ hi
    have S' := S.setP (i := i) (T := U) (a := f a) (v := v) (hc r)
    have e : σ.set i (some v) = σ := by
      apply List.ext_getElem?
      intro j
      by_cases hj : i = j
      · subst hj
        rw [List.getElem?_set_self (List.getElem?_eq_some_iff.mp e1).1, e1]
      · rw [List.getElem?_set_ne hj]
    rw [e] at S'
    exact h.ev b F σ H D S' q⟩
/-- a slot that holds no None -/
theorem ds_unopt {T : Ty X.K α} [Inhabited α] {a : Option α} {k : α → R ε τ} {i : Nat} {sts : List Stmt} {ts : TS} (hi : ρ[i]? = some (some (.pl (yOpt T) a))) (h : ∀ x, DS X J (ρ.set i (some (.pl T x))) sts ts I (k x)) : DS X J ρ sts ts I ((unO a).bind k) := by
  cases a with
  | none => exact ⟨(h default).ps, fun b F σ H D S q => (show False from q).elim⟩
  | some x => exact ds_conv (f := fun _ => x) hi (fun r => r.1) (h x)
theorem ds_augSub {e : Expr} {t : TE} {μ : Md} {i : Nat} {x : Str} {pos' : Pos} {n : Int} {m : R ε Int} (hN : X.N.Nodup) (hi : X.N[i]? = some x) (hx : Loc X.env.scope x) (hρ : ρ[i]? = some (some (.pl yInt n))) (h : DE X J ρ e t (rV μ yInt) m) (hf : X.fn x = true ∨ X.env.scope.names.lookup x = some .local := by first | exact .inl rfl | exact .inr rfl) :
    DS1 X J ρ (.AugAssign (.Name x pos') .Sub e pos) (tAug i t (ipI fun i j => i - j)) (fun a => .nx (ρ.set i (some (.pl yInt a)))) (m.bind fun j => .ok (n - j)) :=
  ⟨ps_aug hN hi hx h.pe ip_sub hf, fun b F σ H D S q => by
    obtain ⟨v, e1, r⟩ := S.sl i _ hρ
    cases r
    refine ⟨_, e1, h.ev.thenS S q fun a F' v H' g S' r q' => ?_⟩
    cases r
    exact ⟨n, a, rfl, rfl, q' F' _ H' (Same.refl _) (S'.setP rfl)⟩⟩
def fuel : Nat := 1000000000
/-- no value of the type is None -/
theorem nn_int {a : Int} {F : Hp} {v : V} (h : (yInt (K := K)).rel a F v) : v ≠ .non := by cases h; exact fun z => by cases z
theorem nn_bl {a : Bool} {F : Hp} {v : V} (h : (yBl (K := K)).rel a F v) : v ≠ .non := by cases h; exact fun z => by cases z
theorem nn_str {a : Str} {F : Hp} {v : V} (h : (yStr (K := K)).rel a F v) : v ≠ .non := by obtain ⟨h, _⟩ := h; cases h; exact fun z => by cases z
theorem nn_tup {U : Tys K α} {a : α} {F : Hp} {v : V} (h : (yTup U).rel a F v) : v ≠ .non := by obtain ⟨p, xs, h, _⟩ := h; subst h; exact fun z => by cases z
theorem nn_tupOf {T : Ty K α} {a : List α} {F : Hp} {v : V} (h : (yTupOf T).rel a F v) : v ≠ .non := by obtain ⟨p, xs, h, _⟩ := h; subst h; exact fun z => by cases z
theorem nn_lst {T : Ty K α} {a : List α} {F : Hp} {v : V} (h : (yLst T).rel a F v) : v ≠ .non := by obtain ⟨p, xs, h, _⟩ := h; subst h; exact fun z => by cases z
/-- a tuple of fixed length as a row -/
structure Tl {α β : Type} (U : Tys K α) (T : Ty K β) (f : α → List β) : Prop where
  ok : ∀ {a : α} {F : Hp} {vs : List V}, U.rel a F vs → T.all (f a) F vs
theorem tl_1 {T : Ty K α} : Tl (tys1 T) T (fun a => [a]) := ⟨fun ⟨v, e, r⟩ => by subst e; exact .cons r .nil⟩
theorem tl_C {T : Ty K β} {U : Tys K α} {f : α → List β} (h : Tl U T f) : Tl (tysC T U) T (fun a => a.1 :: f a.2) := ⟨fun ⟨v, vs, e, r, q⟩ => by subst e; exact .cons r (h.ok q)⟩
theorem Tl.rel {U : Tys K α} {T : Ty K β} {f : α → List β} (h : Tl U T f) {a : α} {F : Hp} {v : V} (r : (yTup U).rel a F v) : (yTupOf T).rel (f a) F v := by
  obtain ⟨p, xs, h1, h2, h3⟩ := r
  exact ⟨p, xs, h1, h2, h.ok h3⟩
theorem len_tupN {U : Tys K α} {n : Nat} (h : U.n = n) : Len (yTup U) (fun _ => n) := ⟨fun {a F H v} e ⟨p, xs, h1, h2, h3⟩ => by subst h1; exact .inr ⟨xs, Same.sqt e h2, ((U.len h3).trans h).symm⟩⟩
theorem len_tup {U : Tys K α} : Len (yTup U) (fun _ => U.n) := ⟨fun {a F H v} e ⟨p, xs, h1, h2, h3⟩ => by subst h1; exact .inr ⟨xs, Same.sqt e h2, (U.len h3).symm⟩⟩
end
section
variable {α β : Type} {X : Cx} {J : Jc X.K ε} {ρ : Ev X.K} {e e' : Expr} {rest : List Expr} {pos : Pos} {t t' : TE}
theorem andok (c d : Bool) : (if c then (R.ok d : R ε Bool) else .ok false) = .ok (c && d) := by cases c <;> rfl
theorem orok (c d : Bool) : (if c then (R.ok true : R ε Bool) else .ok d) = .ok (c || d) := by cases c <;> rfl
/-- the script is walked -/
theorem walks_scr {T : Ty X.K α} {p : Addr} {l : List α} {F0 : Hp} {xs : List V} (h : SqL X.K F0 p xs) (r : T.all l F0 xs) : Walks (Itl X.K p) T l F0 := fun i F H h1 h2 => by
  have hl := Paired.length r
  have sq : SqL X.K H p xs := Same.seq (h1.trans h2) h
  refine ⟨fun hi => ?_, fun hi => ⟨xs, sq, by omega⟩⟩
  obtain ⟨v, e1, e2⟩ := all_get r (List.getElem?_eq_getElem hi)
  refine ⟨⟨xs, v, sq, e1⟩, fun x H' ⟨e3, e4⟩ => ?_⟩
  subst e3
  have := e4 xs sq
  rw [e1] at this; cases this
  exact ⟨F, Gr.refl _ _, h2, T.mono h1 e2⟩
theorem di_scr {T : Ty X.K α} {ml : R ε (List α)} {tg : Expr} (ha : DE X J ρ e t (rP (yScr T)) ml) (fs : ∀ x, foldedSetIterable e X.env x = pure x := by intro _; rfl) : DI X J ρ tg e (iList X.K t) T ml :=
  ⟨pi_list ha.pe, fun b F σ H Q S q => ha.ev.thenI S (k := fun l => .ok l) (by rw [bindok]; exact q) fun a F' v H' g S' r q' => by
    obtain ⟨p, xs, h1, h2, h3⟩ := r
    exact ⟨p, h1, ⟨xs, Same.seq S'.fh h2⟩, PostI.here q' S' (walks_scr h2 h3)⟩, fs⟩
end
end Cp
namespace Cp
open PySem PySem.Spec L2
open PyProof.Rows hiding St
variable {K : PySem.W.Frag} {ε : Type}
section
variable {α β : Type}
/-- a row as a tuple of fixed length -/
def toT1 : List α → Option α
  | [a] => some a
  | _ => none
def toTC (g : List α → Option β) : List α → Option (α × β)
  | [] => none
  | a :: l => match g l with
    | some b => some (a, b)
    | none => none
structure Lt {α β : Type} (U : Tys K β) (T : Ty K α) (g : List α → Option β) : Prop where
  ok : ∀ {l : List α} {b : β} {F : Hp} {vs : List V}, g l = some b → T.all l F vs → U.rel b F vs
theorem lt_1 {T : Ty K α} : Lt (tys1 T) T toT1 := ⟨fun {l b F vs} e r => by
  cases r with
  | nil => cases e
  | cons r1 r2 =>
    cases r2 with
    | nil => cases e; exact ⟨_, rfl, r1⟩
    | cons _ _ => cases e⟩
theorem lt_C {T : Ty K α} {U : Tys K β} {g : List α → Option β} (h : Lt U T g) : Lt (tysC T U) T (toTC g) := ⟨fun {l b F vs} e r => by
  cases r with
  | nil => cases e
  | @cons v l vs us r1 r2 =>
    replace e : (match g us with | some b => some (l, b) | none => none) = some b := e
    cases z : g us with
    | none => rw [z] at e; cases e
    | some b => rw [z] at e; cases e; exact ⟨_, _, rfl, r1, h.ok z r2⟩⟩
variable {X : Cx} {J : Jc X.K ε} {ρ : Ev X.K} {e : Expr} {t : TE}
theorem de_ofTup {U : Tys X.K β} {T : Ty X.K α} {g : List α → Option β} {m : R ε (List α)} (h : Lt U T g) (ha : DE X J ρ e t (rP (yTupOf T)) m) : DE X J ρ e t (rP (yTup U)) (m.bind fun l => unO (g l)) :=
  ⟨ha.pe, fun b F σ H Q S q => ha.ev b F σ H Q S (by
    cases m with
    | exn e => exact q
    | bad => exact q
    | ok l =>
      intro F' v H' gr S' r
      have q : PostE J b ρ (rP (yTup U)) F σ H Q (unO (g l)) := q
      cases z : g l with
      | none => rw [z] at q; exact q.elim
      | some a =>
        rw [z] at q
        obtain ⟨p, xs, h1, h2, h3⟩ := r
        exact q F' v H' gr S' ⟨p, xs, h1, h2, h.ok z h3⟩)⟩
end
end Cp
namespace Cp
open PySem PySem.Spec L2
variable {ε : Type}
section
variable {α : Type} {X : Cx} {J : Jc X.K ε} {ρ : Ev X.K}
theorem dec {ex : Expr} {t t' : TE} {P : Rk X.K α} {m : R ε α} (h : DE X J ρ ex t P m) (e : t = t') : DE X J ρ ex t' P m := e ▸ h
theorem dtc {ifs : List Expr} {t t' : TT} {m : R ε Bool} (h : DTs X J ρ ifs t m) (e : t = t') : DTs X J ρ ifs t' m := e ▸ h
theorem dgc {tg : Expr} {g g' : TG} {T : Ty X.K α} {ρ' : α → Ev X.K} {ix : List Nat} (h : DG X ρ tg g T ρ' ix) (e : g = g') : DG X ρ tg g' T ρ' ix := e ▸ h
end
end Cp

/-! Mathematics of mirrors: what holds of what they compute. -/
namespace Cp
open PySem PySem.Spec
section
variable {ε α β s θ : Type}
/-- it gives a value, and P holds of it -/
def wp (m : R ε α) (P : α → Prop) : Prop := ∃ a, m = .ok a ∧ P a
theorem wp_ok {a : α} {P : α → Prop} : wp (R.ok a : R ε α) P ↔ P a := ⟨fun ⟨b, e, h⟩ => by cases e; exact h, fun h => ⟨a, rfl, h⟩⟩
theorem wp_bind {m : R ε α} {k : α → R ε β} {P : β → Prop} : wp (m.bind k) P ↔ wp m fun a => wp (k a) P := by
  cases m with
  | ok a => exact ⟨fun h => ⟨a, rfl, h⟩, fun ⟨b, e, h⟩ => by cases e; exact h⟩
  | exn e => exact ⟨fun ⟨b, e, _⟩ => (nomatch e), fun ⟨b, e, _⟩ => (nomatch e)⟩
  | bad => exact ⟨fun ⟨b, e, _⟩ => (nomatch e), fun ⟨b, e, _⟩ => (nomatch e)⟩
theorem wp_ite {c : Prop} [Decidable c] {m1 m2 : R ε α} {P : α → Prop} : wp (if c then m1 else m2) P ↔ (c → wp m1 P) ∧ (¬ c → wp m2 P) := by
  by_cases h : c
  · rw [if_pos h]; exact ⟨fun q => ⟨fun _ => q, fun z => (z h).elim⟩, fun q => q.1 h⟩
  · rw [if_neg h]; exact ⟨fun q => ⟨fun z => (h z).elim, fun _ => q⟩, fun q => q.2 h⟩
theorem wp.mono {m : R ε α} {P Q : α → Prop} (h : wp m P) (hq : ∀ a, P a → Q a) : wp m Q := let ⟨a, e, p⟩ := h; ⟨a, e, hq a p⟩
theorem wp.eq {m : R ε α} {c : α} (h : wp m (· = c)) : m = .ok c := by obtain ⟨a, e, rfl⟩ := h; exact e
theorem wp_eq {m : R ε α} {c : α} (h : m = .ok c) : wp m (· = c) := ⟨c, h, rfl⟩
theorem wp_seqX {m : R ε (α ⊕ β)} {f : β → θ} {k : α → R ε θ} {P : θ → Prop} : wp (m.seqX f k) P ↔ wp m fun r => match r with | .inl a => wp (k a) P | .inr c => P (f c) := by
  unfold R.seqX
  rw [wp_bind]
  constructor
  · rintro ⟨a, e, h⟩
    refine ⟨a, e, ?_⟩
    cases a with
    | inl a => exact h
    | inr c => obtain ⟨b, e2, h⟩ := h; cases e2; exact h
  · rintro ⟨a, e, h⟩
    refine ⟨a, e, ?_⟩
    cases a with
    | inl a => exact h
    | inr c => exact ⟨_, rfl, h⟩
theorem ixN_ok {n : Nat} {i : Int} (h0 : 0 ≤ i) (h1 : i < n) : L2.ixN n i = some i.toNat := by
  unfold L2.ixN
  simp only [h0, if_true]
  split
  · rfl
  · omega
theorem atI_ok {l : List α} {i : Int} (h0 : 0 ≤ i) (h1 : i < l.length) : L2.atI l i = some (l[i.toNat]'(by omega)) := by
  unfold L2.atI
  rw [ixN_ok h0 h1]
  exact List.getElem?_eq_getElem _
theorem wp_ix {l : List α} {i : Int} {P : α → Prop} (h0 : 0 ≤ i) (h1 : i < l.length) (h : ∀ (hi : i.toNat < l.length), P (l[i.toNat])) : wp (rIx l i : R ε α) P := by
  unfold rIx
  rw [atI_ok h0 h1]
  exact ⟨_, rfl, h (by omega)⟩
theorem rIx_ok {l : List α} {i : Int} (h0 : 0 ≤ i) (h1 : i < l.length) : (rIx l i : R ε α) = .ok (l[i.toNat]'(by omega)) := by
  unfold rIx
  rw [atI_ok h0 h1]
theorem rIx_last {l : List α} (h : l ≠ []) : (rIx l (-1) : R ε α) = .ok (l.getLast h) := by
  have hl := List.length_pos_iff.mpr h
  have : L2.atI l (-1) = some (l.getLast h) := by
    unfold L2.atI L2.ixN
    have e : ¬ (0 : Int) ≤ -1 := by omega
    simp only [e, if_false]
    rw [List.getLast_eq_getElem h]
    have e2 : -(l.length : Int) ≤ -1 := by omega
    simp only [e2, if_true]
    show l[(-1 + (l.length : Int)).toNat]? = _
    rw [show (-1 + (l.length : Int)).toNat = l.length - 1 by omega]
    exact List.getElem?_eq_getElem _
  unfold rIx
  rw [this]
theorem wp_last {l : List α} {P : α → Prop} (h : l ≠ []) (hp : P (l.getLast h)) : wp (rIx l (-1) : R ε α) P := ⟨_, rIx_last h, hp⟩
theorem wp_rng {lo hi : Int} {P : List Int → Prop} (h1 : -4611686018427387904 ≤ lo) (h2 : lo < 4611686018427387904) (h3 : -4611686018427387904 ≤ hi) (h4 : hi < 4611686018427387904) (h : P (rng lo hi)) : wp (rRng lo hi : R ε _) P := by
  refine ⟨_, ?_, h⟩
  unfold rRng
  have a : fit62 lo = true := decide_eq_true (by omega)
  have b : fit62 hi = true := decide_eq_true (by omega)
  rw [a, b]
  rfl
theorem rRng_ok {lo hi : Int} (h1 : -4611686018427387904 ≤ lo) (h2 : lo < 4611686018427387904) (h3 : -4611686018427387904 ≤ hi) (h4 : hi < 4611686018427387904) : (rRng lo hi : R ε _) = .ok (rng lo hi) := (wp_rng (P := (· = rng lo hi)) h1 h2 h3 h4 rfl).eq
theorem rng_get {lo hi : Int} {i : Nat} {x : Int} (h : (rng lo hi)[i]? = some x) : x = lo + i ∧ (i : Int) < hi - lo := by
  unfold rng at h
  rw [List.getElem?_map] at h
  by_cases hi' : i < (hi - lo).toNat
  · rw [List.getElem?_range hi'] at h
    cases h
    exact ⟨rfl, by omega⟩
  · rw [List.getElem?_eq_none (by rw [List.length_range]; omega)] at h; cases h
theorem rng_mem {lo hi x : Int} : x ∈ rng lo hi ↔ lo ≤ x ∧ x < hi := by
  unfold rng
  rw [List.mem_map]
  constructor
  · rintro ⟨i, hi', rfl⟩
    rw [List.mem_range] at hi'
    omega
  · rintro ⟨h1, h2⟩
    exact ⟨(x - lo).toNat, by rw [List.mem_range]; omega, by omega⟩
theorem wp_mul {i j : Int} {P : Int → Prop} (h : (-18446744073709551616 < i ∧ i < 18446744073709551616) ∨ (-18446744073709551616 < j ∧ j < 18446744073709551616)) (hp : P (i * j)) : wp (rMul i j : R ε Int) P := by
  refine ⟨_, ?_, hp⟩
  unfold rMul
  rw [if_pos (by omega)]
theorem wp_div {i j : Int} {P : Int → Prop} (h : 0 < j ∧ j < 1073741824) (hp : P (i / j)) : wp (rDiv i j : R ε Int) P := ⟨_, by unfold rDiv; rw [if_pos h], hp⟩
theorem wp_mod {i j : Int} {P : Int → Prop} (h : 0 < j) (hp : P (i % j)) : wp (rMod i j : R ε Int) P := ⟨_, by unfold rMod; rw [if_pos h], hp⟩
theorem wp_pow {i j : Int} {P : Int → Prop} (h : 0 ≤ j ∧ j ≤ 1000000) (h2 : i.natAbs < 18446744073709551616) (hp : P (i ^ j.toNat)) : wp (rPow i j : R ε Int) P := ⟨_, by unfold rPow; rw [if_pos (by omega)], hp⟩
theorem wp_app {l : List α} {a : α} {P : α → Prop} (h : l.length < 16777216) (hp : P a) : wp (rApp l a : R ε α) P := ⟨_, by unfold rApp; rw [if_pos (by rw [sizeLine_eq]; exact h)], hp⟩
theorem wp_cat {l r : List α} {P : List α → Prop} (h : l.length + r.length ≤ 16777216) (hp : P (l ++ r)) : wp (rCatL l r : R ε _) P := ⟨_, by unfold rCatL; rw [if_pos (by rw [sizeLine_eq]; exact h)], hp⟩
theorem wp_rep {l : List α} {k : Int} {P : List α → Prop} (h : 0 ≤ k ∧ k < 16777216) (h2 : l.length * k.toNat ≤ 16777216) (hp : P (List.replicate k.toNat l).flatten) : wp (rRepL l k : R ε _) P := ⟨_, by unfold rRepL; rw [if_pos ⟨by omega, by rw [sizeLine_eq]; exact h2⟩], hp⟩
theorem rep1 (a : α) : ∀ n : Nat, (List.replicate n [a]).flatten = List.replicate n a
  | 0 => rfl
  | n + 1 => by rw [List.replicate_succ, List.flatten_cons, rep1 a n]; rfl
theorem wp_set {l : List α} {k : Int} {a : α} {P : Nat × α → Prop} (h0 : 0 ≤ k) (h1 : k < l.length) (hp : P (k.toNat, a)) : wp (rSetIx l k a : R ε _) P := ⟨_, by unfold rSetIx; rw [ixN_ok h0 h1], hp⟩
theorem wp_lenS {a : Str} {P : Int → Prop} (h : a.length ≤ 16777216) (hp : P a.length) : wp (rLenS a : R ε Int) P := ⟨_, by unfold rLenS; rw [if_pos (by rw [sizeLine_eq]; exact h)], hp⟩
theorem wp_unO {a : Option α} {x : α} {P : α → Prop} (h : a = some x) (hp : P x) : wp (unO a : R ε α) P := by subst h; exact ⟨x, rfl, hp⟩
/-- loops -/
theorem wp_forS {f : α → s → R ε s} (Iv : s → Prop) {P : s → Prop} : ∀ {l : List α} {a : s}, Iv a → (∀ x ∈ l, ∀ a, Iv a → wp (f x a) Iv) → (∀ a, Iv a → P a) → wp (forS f l a) P
  | [], a, h0, _, hp => ⟨a, rfl, hp a h0⟩
  | x :: l, a, h0, h, hp => by
    unfold forS
    rw [wp_bind]
    exact (h x List.mem_cons_self a h0).mono fun a' h' => wp_forS Iv h' (fun y hy => h y (List.mem_cons_of_mem _ hy)) hp
theorem wp_forSn {f : α → s → R ε s} (Iv : Nat → s → Prop) {P : s → Prop} {l : List α} {a : s} (h0 : Iv 0 a) (h : ∀ i x, l[i]? = some x → ∀ a, Iv i a → wp (f x a) (Iv (i + 1))) (hp : ∀ a, Iv l.length a → P a) : wp (forS f l a) P := by
  have key : ∀ (l' : List α) (i : Nat) (a : s), l.drop i = l' → i ≤ l.length → Iv i a → wp (forS f l' a) P := by
    intro l'
    induction l' with
    | nil =>
      intro i a e hi h0
      have : i = l.length := by have := congrArg List.length e; simp at this; omega
      subst this
      exact ⟨a, rfl, hp a h0⟩
    | cons x l' ih =>
      intro i a e hi h0
      have hx : l[i]? = some x := by
        have z := congrArg (fun r => r[0]?) e
        simpa using z
      unfold forS
      rw [wp_bind]
      refine (h i x hx a h0).mono fun a' h' => ih (i + 1) a' ?_ ?_ h'
      · have := congrArg List.tail e
        simpa using this
      · have : i < l.length := (List.getElem?_eq_some_iff.mp hx).1
        omega
  exact key l 0 a rfl (Nat.zero_le _) h0
/-- a loop that may leave: Iv along the way, Z where it leaves -/
theorem wp_forX {f : α → s → R ε (s ⊕ θ)} (Iv : s → Prop) {P : s ⊕ θ → Prop} : ∀ {l : List α} {a : s}, Iv a → (∀ x ∈ l, ∀ a, Iv a → wp (f x a) fun r => match r with | .inl a => Iv a | .inr c => P (.inr c)) → (∀ a, Iv a → P (.inl a)) → wp (forX f l a) P
  | [], a, h0, _, hp => ⟨_, rfl, hp a h0⟩
  | x :: l, a, h0, h, hp => by
    unfold forX
    rw [wp_bind]
    refine (h x List.mem_cons_self a h0).mono fun r h' => ?_
    cases r with
    | inl a' => exact wp_forX Iv h' (fun y hy => h y (List.mem_cons_of_mem _ hy)) hp
    | inr c => exact wp_ok.mpr h'
theorem wp_forXn {f : α → s → R ε (s ⊕ θ)} (Iv : Nat → s → Prop) {P : s ⊕ θ → Prop} {l : List α} {a : s} (h0 : Iv 0 a) (h : ∀ i x, l[i]? = some x → ∀ a, Iv i a → wp (f x a) fun r => match r with | .inl a => Iv (i + 1) a | .inr c => P (.inr c)) (hp : ∀ a, Iv l.length a → P (.inl a)) : wp (forX f l a) P := by
  have key : ∀ (l' : List α) (i : Nat) (a : s), l.drop i = l' → i ≤ l.length → Iv i a → wp (forX f l' a) P := by
    intro l'
    induction l' with
    | nil =>
      intro i a e hi h0
      have : i = l.length := by have := congrArg List.length e; simp at this; omega
      subst this
      exact ⟨_, rfl, hp a h0⟩
    | cons x l' ih =>
      intro i a e hi h0
      have hx : l[i]? = some x := by
        have z := congrArg (fun r => r[0]?) e
        simpa using z
      unfold forX
      rw [wp_bind]
      refine (h i x hx a h0).mono fun r h' => ?_
      cases r with
      | inl a' =>
        refine ih (i + 1) a' ?_ ?_ h'
        · have := congrArg List.tail e
          simpa using this
        · have : i < l.length := (List.getElem?_eq_some_iff.mp hx).1
          omega
      | inr c => exact wp_ok.mpr h'
  exact key l 0 a rfl (Nat.zero_le _) h0
/-- a display with a test -/
theorem lcM_pure {mt : α → R ε Bool} {f : α → R ε β} (p : α → Bool) (g : α → β) : ∀ {l : List α}, (∀ x ∈ l, mt x = .ok (p x)) → (∀ x ∈ l, p x = true → f x = .ok (g x)) → lcM mt f l = .ok ((l.filter p).map g)
  | [], _, _ => rfl
  | x :: l, h1, h2 => by
    unfold lcM
    rw [h1 x List.mem_cons_self, R.bind_ok, lcM_pure p g (fun y hy => h1 y (List.mem_cons_of_mem _ hy)) fun y hy => h2 y (List.mem_cons_of_mem _ hy)]
    cases e : p x with
    | true => rw [if_pos rfl, h2 x List.mem_cons_self e, List.filter_cons_of_pos e]; rfl
    | false => rw [if_neg Bool.false_ne_true, List.filter_cons_of_neg (by rw [e]; exact Bool.false_ne_true)]
theorem wp_lc {mt : α → R ε Bool} {f : α → R ε β} (p : α → Bool) (g : α → β) {l : List α} {P : List β → Prop} (hl : l.length ≤ 16777216) (h1 : ∀ x ∈ l, mt x = .ok (p x)) (h2 : ∀ x ∈ l, p x = true → f x = .ok (g x)) (hp : P ((l.filter p).map g)) : wp (lcR mt f l) P := by
  refine ⟨_, ?_, hp⟩
  unfold lcR
  rw [if_pos (by rw [sizeLine_eq]; exact hl), lcM_pure p g h1 h2]
  rfl
/-- without a test, item by item -/
theorem wp_map {f : α → R ε β} (Q : α → β → Prop) {l : List α} {P : List β → Prop} (hl : l.length ≤ 16777216) (h : ∀ x ∈ l, wp (f x) (Q x)) (hp : ∀ r : List β, r.length = l.length → (∀ (i : Nat) (x : α) (y : β), l[i]? = some x → r[i]? = some y → Q x y) → P r) : wp (lcR (fun _ => .ok true) f l) P := by
  have key : ∀ l : List α, (∀ x ∈ l, wp (f x) (Q x)) → ∃ r, lcM (fun _ => .ok true) f l = .ok r ∧ r.length = l.length ∧ ∀ (i : Nat) (x : α) (y : β), l[i]? = some x → r[i]? = some y → Q x y := by
    intro l
    induction l with
    | nil => exact fun _ => ⟨[], rfl, rfl, fun i x y e => by simp at e⟩
    | cons x l ih =>
      intro h
      obtain ⟨r, e, el, hr⟩ := ih fun y hy => h y (List.mem_cons_of_mem _ hy)
      obtain ⟨y, ey, hy⟩ := h x List.mem_cons_self
      refine ⟨y :: r, ?_, by rw [List.length_cons, List.length_cons, el], fun i a b => ?_⟩
      · unfold lcM
        rw [R.bind_ok, if_pos rfl, ey, R.bind_ok, e, R.bind_ok]
      · cases i with
        | zero => intro e1 e2; simp at e1 e2; subst e1; subst e2; exact hy
        | succ i => intro e1 e2; exact hr i a b (by simpa using e1) (by simpa using e2)
  obtain ⟨r, e, el, hr⟩ := key l h
  refine ⟨r, ?_, hp r el hr⟩
  unfold lcR
  rw [if_pos (by rw [sizeLine_eq]; exact hl), e]
  rfl
theorem memB_of [DecidableEq α] {a : α} {l : List α} (h : a ∈ l) : memB a l = true := decide_eq_true h
theorem memB_no [DecidableEq α] {a : α} {l : List α} (h : a ∉ l) : memB a l = false := decide_eq_false h
theorem memB_iff [DecidableEq α] {a : α} {l : List α} : memB a l = true ↔ a ∈ l := decide_eq_true_iff
/-- the first place of an item -/
def ixO [DecidableEq α] (l : List α) (a : α) : Nat := l.idxOf a
theorem rIndex_ok [DecidableEq α] {a : α} {l : List α} (h : a ∈ l) : (rIndex l a : R ε Int) = .ok (ixO l a : Int) := by unfold rIndex; rw [if_pos h]; rfl
theorem ixO_lt [DecidableEq α] {a : α} {l : List α} (h : a ∈ l) : ixO l a < l.length := List.idxOf_lt_length_iff.mpr h
theorem ixO_get [DecidableEq α] {a : α} {l : List α} (h : a ∈ l) : l[ixO l a]? = some a := by
  rw [List.getElem?_eq_getElem (ixO_lt h)]
  exact congrArg some (List.getElem_idxOf (ixO_lt h))
theorem ixO_first [DecidableEq α] {a : α} {l : List α} {j : Nat} (h : j < ixO l a) : l[j]? ≠ some a := by
  intro e
  have hj := (List.getElem?_eq_some_iff.mp e).1
  have := List.not_of_lt_findIdx (p := (· == a)) (xs := l) (i := j) h
  rw [List.getElem?_eq_getElem hj] at e
  cases e
  simp at this
theorem rng_pw (lo hi : Int) : (rng lo hi).Pairwise (· < ·) := by
  unfold rng
  rw [List.pairwise_map]
  exact List.pairwise_lt_range.imp fun h => by omega
/-- where a search through the places finds an item first -/
theorem found_of [DecidableEq α] (d : α) (p : List α) (c : α) : (c ∉ p ∧ (rng 0 p.length).filter (fun k => decide (p.getD k.toNat d = c)) = []) ∨ (c ∈ p ∧ ∃ tl, (rng 0 p.length).filter (fun k => decide (p.getD k.toNat d = c)) = (ixO p c : Int) :: tl) := by
  by_cases hc : c ∈ p
  · right
    refine ⟨hc, ?_⟩
    have hlt := ixO_lt hc
    have e : (rng 0 p.length).find? (fun k => decide (p.getD k.toNat d = c)) = some (ixO p c : Int) := by
      unfold rng
      rw [List.find?_map, show ((p.length : Int) - 0).toNat = p.length by omega]
      have : (List.range p.length).find? ((fun k : Int => decide (p.getD k.toNat d = c)) ∘ fun i : Nat => (0 : Int) + i) = some (ixO p c) := by
        rw [List.find?_range_eq_some]
        refine ⟨?_, List.mem_range.mpr hlt, fun j hj => ?_⟩
        · have e3 : ((0 : Int) + (ixO p c : Nat)).toNat = ixO p c := by omega
          simp only [Function.comp, e3]
          rw [List.getD_eq_getElem?_getD, ixO_get hc]
          simp
        · have e3 : ((0 : Int) + (j : Nat)).toNat = j := by omega
          simp only [Function.comp, e3]
          have hj2 : j < p.length := by omega
          have := ixO_first hj
          rw [List.getElem?_eq_getElem hj2] at this
          rw [List.getD_eq_getElem?_getD, List.getElem?_eq_getElem hj2]
          simpa using this
      rw [this]
      show some ((0 : Int) + (ixO p c : Nat)) = _
      rw [Int.zero_add]
    rw [← List.head?_filter] at e
    cases q : (rng 0 p.length).filter (fun k => decide (p.getD k.toNat d = c)) with
    | nil => rw [q] at e; cases e
    | cons x tl => rw [q] at e; cases e; exact ⟨tl, rfl⟩
  · left
    refine ⟨hc, List.filter_eq_nil_iff.mpr fun k hk => ?_⟩
    rw [rng_mem] at hk
    rw [decide_eq_true_eq, List.getD_eq_getElem?_getD, List.getElem?_eq_getElem (by omega)]
    intro z
    exact hc (z ▸ List.getElem_mem _)
theorem two_sort (a b : Int) : (two (sortI [a, b]) : R ε (Int × Int)) = .ok (if b < a then b else a, if b > a then b else a) := by
  have e : sortI [a, b] = [if b < a then b else a, if b > a then b else a] := by
    refine sortI_uniq ((sortI_perm _).trans ?_) (sortI_pw _) ?_
    · by_cases h1 : b < a
      · rw [if_pos h1, if_neg (by omega)]; exact .swap ..
      · by_cases h2 : b > a
        · rw [if_neg h1, if_pos h2]
        · have : a = b := by omega
          subst this
          simp
    · simp
      split <;> split <;> omega
  rw [e]
  rfl
end
end Cp

/-! The data layer: dicts whose keys are tuples, of any depth. -/
namespace Cp
open PySem PySem.Spec L2
open PyProof.Rows hiding St
variable {K : PySem.W.Frag} {ε : Type}

/-! ### keys -/
mutual
/-- v is the key k -/
def NK (K : PySem.W.Frag) (H : Hp) : NestedKey → V → Prop
  | .none, v => v = .non
  | .num i, v => v = .int i
  | .text x, v => v = .str x
  | .tup ks, v => ∃ p xs, v = .ref p ∧ SqT K H p xs ∧ NKs K H ks xs
def NKs (K : PySem.W.Frag) (H : Hp) : List NestedKey → List V → Prop
  | [], vs => vs = []
  | k :: ks, vs => ∃ v r, vs = v :: r ∧ NK K H k v ∧ NKs K H ks r
end
mutual
theorem NK.mono {H H' : Hp} (e : Same H H') : ∀ (k : NestedKey) (v : V), NK K H k v → NK K H' k v
  | .none, v, h => by rw [NK] at h ⊢; exact h
  | .num i, v, h => by rw [NK] at h ⊢; exact h
  | .text x, v, h => by rw [NK] at h ⊢; exact h
  | .tup ks, v, h => by
    rw [NK] at h ⊢
    obtain ⟨p, xs, h1, h2, h3⟩ := h
    exact ⟨p, xs, h1, Same.sqt e h2, NKs.mono e ks xs h3⟩
theorem NKs.mono {H H' : Hp} (e : Same H H') : ∀ (ks : List NestedKey) (vs : List V), NKs K H ks vs → NKs K H' ks vs
  | [], vs, h => by rw [NKs] at h ⊢; exact h
  | k :: ks, vs, h => by
    rw [NKs] at h ⊢
    obtain ⟨v, r, h1, h2, h3⟩ := h
    exact ⟨v, r, h1, NK.mono e k v h2, NKs.mono e ks r h3⟩
end
section
variable {X : Cx} {pins : List (Addr × Obj)} {σ : St} {H : Hp} {s : Shared}
mutual
theorem nk_is (I : Inv X pins σ H s) : ∀ (k : NestedKey) (v : V) (u : Value), NK X.K H k v → RelV v u → NestedIs s.heap k u
  | .none, v, u, h, r => by
    rw [NK] at h; subst h
    cases r; exact .none
  | .num i, v, u, h, r => by
    rw [NK] at h; subst h
    obtain ⟨t, rfl⟩ := r; exact .int _ _
  | .text x, v, u, h, r => by
    rw [NK] at h; subst h
    obtain ⟨t, rfl⟩ := r; exact .text _ _
  | .tup ks, v, u, h, r => by
    rw [NK] at h
    obtain ⟨p, xs, rfl, h2, h3⟩ := h
    cases r
    obtain ⟨its, r2, ⟨o, e1, e2, n, e3⟩, _⟩ := I.tuple h2
    exact .tup e1 e2 e3 (by rw [List.toList_toArray]; exact nks_are I ks xs its h3 r2)
theorem nks_are (I : Inv X pins σ H s) : ∀ (ks : List NestedKey) (vs : List V) (us : List Value), NKs X.K H ks vs → Vals vs us → NestedAll s.heap ks us
  | [], vs, us, h, r => by
    rw [NKs] at h; subst h
    cases r; exact .nil
  | k :: ks, vs, us, h, r => by
    rw [NKs] at h
    obtain ⟨v, vr, rfl, h2, h3⟩ := h
    cases r with
    | cons r1 r2 => exact .cons (nk_is I k _ _ h2 r1) (nks_are I ks _ _ h3 r2)
end
end
/-- a type whose values may be (parts of) keys -/
structure Ky {α : Type} (K : PySem.W.Frag) (T : Ty K α) where
  key : α → NestedKey
  is : ∀ {a : α} {F : Hp} {v : V}, T.rel a F v → NK K F (key a) v
  inj : ∀ {a b : α}, key a = key b → a = b
  d : Nat
  dep : ∀ a, (key a).depth ≤ d
structure Kys {α : Type} (K : PySem.W.Frag) (U : Tys K α) where
  keys : α → List NestedKey
  are : ∀ {a : α} {F : Hp} {vs : List V}, U.rel a F vs → NKs K F (keys a) vs
  inj : ∀ {a b : α}, keys a = keys b → a = b
  d : Nat
  dep : ∀ a, NestedKey.depthAll (keys a) ≤ d
section
variable {α β : Type}
def kInt : Ky K (yInt (K := K)) := ⟨.num, fun {a F v} h => by rw [NK]; exact h, fun h => by cases h; rfl, 0, fun a => by rw [NestedKey.depth]; exact Nat.le_refl 0⟩
def kStr : Ky K (yStr (K := K)) := ⟨.text, fun {a F v} h => by rw [NK]; exact h.1, fun h => by cases h; rfl, 0, fun a => by rw [NestedKey.depth]; exact Nat.le_refl 0⟩
def ks1 {T : Ty K α} (k : Ky K T) : Kys K (tys1 T) := ⟨fun a => [k.key a], fun {a F vs} ⟨v, e, r⟩ => by
    rw [NKs]
    exact ⟨v, [], e, k.is r, by rw [NKs]⟩, fun h => k.inj (List.cons.inj h).1, k.d, fun a => by rw [NestedKey.depthAll, NestedKey.depthAll]; exact Nat.max_le.mpr ⟨k.dep a, Nat.zero_le _⟩⟩
def ksC {T : Ty K α} {U : Tys K β} (k : Ky K T) (ks : Kys K U) : Kys K (tysC T U) := ⟨fun a => k.key a.1 :: ks.keys a.2, fun {a F vs} ⟨v, r, e, h1, h2⟩ => by
    rw [NKs]
    exact ⟨v, r, e, k.is h1, ks.are h2⟩, fun {a b} h => by
    have h1 : k.key a.1 = k.key b.1 := (List.cons.inj h).1
    have h2 : ks.keys a.2 = ks.keys b.2 := (List.cons.inj h).2
    exact Prod.ext (k.inj h1) (ks.inj h2), max k.d ks.d, fun a => by rw [NestedKey.depthAll]; exact Nat.max_le.mpr ⟨Nat.le_trans (k.dep _) (Nat.le_max_left ..), Nat.le_trans (ks.dep _) (Nat.le_max_right ..)⟩⟩
def kTup {U : Tys K α} (ks : Kys K U) : Ky K (yTup U) := ⟨fun a => .tup (ks.keys a), fun {a F v} ⟨p, xs, h1, h2, h3⟩ => by
    rw [NK]
    exact ⟨p, xs, h1, h2, ks.are h3⟩, fun h => ks.inj (NestedKey.tup.inj h), ks.d + 1, fun a => by rw [NestedKey.depth]; exact Nat.succ_le_succ (ks.dep a)⟩
end

/-! ### the object -/
abbrev En := NestedKey × Addr × V
abbrev EP : List En → List (NestedKey × Addr × Value) → Prop := Paired fun x y => x.1 = y.1 ∧ x.2.1 = y.2.1 ∧ RelV x.2.2 y.2.2
def dN (P : Program) (w : World) (p : Addr) (xs : List En) (o : Obj) : HO := .ext fun h => h.get? p = some o ∧ xs.length ≤ sizeLine ∧ (p == sysModules) = false ∧ ∃ ys, EP xs ys ∧
  ∃ es ep, o.ExactDict ∧ o.data = .dict es ep ∧ es.toList = ys.map (entryOfKey (nestedKind P w)) ∧ (ys.map (·.1)).Nodup
def stN (xs : List En) (k : NestedKey) (a : Addr) (v : V) : List En := if (xs.any fun x => decide (x.1 = k)) then xs.map fun x => if x.1 = k then (x.1, x.2.1, v) else x else xs ++ [(k, a, v)]
theorem EP.any {xs : List En} {ys : List (NestedKey × Addr × Value)} (h : EP xs ys) (k : NestedKey) : (xs.any fun x => decide (x.1 = k)) = (atKey ys k).isSome := by
  induction h with
  | nil => rfl
  | @cons x y xs ys r t ih =>
    unfold atKey at ih ⊢
    rw [List.any_cons, List.find?_cons, ih, r.1]
    by_cases e : y.1 = k
    · simp [e]
    · simp [e]
theorem EP.st {xs : List En} {ys : List (NestedKey × Addr × Value)} (h : EP xs ys) (k : NestedKey) (a : Addr) {v : V} {u : Value} (r : RelV v u) : EP (stN xs k a v) (storedH ys k a u) := by
  unfold stN storedH
  rw [h.any k]
  split
  · rename_i hz
    clear hz
    induction h with
    | nil => exact .nil
    | @cons x y xs ys q t ih =>
      rw [List.map_cons, List.map_cons]
      refine .cons ?_ ih
      unfold putAt
      rw [q.1]
      by_cases e : y.1 = k
      · rw [if_pos e, if_pos e]; exact ⟨rfl, q.2.1, r⟩
      · rw [if_neg e, if_neg e]; exact q
  · exact prd_app h (.cons ⟨rfl, rfl, r⟩ .nil)
theorem stN_len (xs : List En) (k : NestedKey) (a : Addr) (v : V) : (stN xs k a v).length ≤ xs.length + 1 := by
  unfold stN
  split
  · rw [List.length_map]; exact Nat.le_succ _
  · rw [List.length_append]; exact Nat.le_refl _
section
variable {X : Cx} {pins : List (Addr × Obj)} {σ : St} {H : Hp} {s : Shared} {p : Addr} {xs : List En}
theorem dn_new {P : Program} {w : World} {H' : Hp} {h' : Heap} {ys : List (NestedKey × Addr × Value)} (hl : xs.length ≤ sizeLine) (hd : (p == sysModules) = false) (e : EP xs ys) (D : h'.DictOfH (nestedKind P w) p ys) {o : Obj} (ho : h'.get? p = some o) : ObjOk P w H' h' p (dN P w p xs o) := by
  obtain ⟨o', es, ep, h1, h2, h3, h4, _, h6⟩ := D
  rw [ho] at h1; cases h1
  exact ⟨⟨ho, hl, hd, ys, e, es, ep, h2, h3, h4, h6⟩, ⟨o, ho⟩, fun a b ⟨g0, g⟩ k => ⟨k _ g0, g⟩⟩
theorem dn_full {o : Obj} (I : Inv X pins σ H s) (hp : H p = some (dN X.prog X.w p xs o)) (hk : ∀ x ∈ xs, NK X.K H x.1 (.ref x.2.1) ∧ x.1.depth ≤ 8) : xs.length ≤ sizeLine ∧ (p == sysModules) = false ∧ ∃ ys, EP xs ys ∧ s.heap.DictOfH (nestedKind X.prog X.w) p ys := by
  obtain ⟨⟨g4, g1, g2, ys, g3, es, ep, g5, g6, g7, g8⟩, gz⟩ := (show ObjOk X.prog X.w H s.heap p (dN X.prog X.w p xs o) from I.hok p _ hp)
  refine ⟨g1, g2, ys, g3, o, es, ep, g4, g5, g6, g7, ?_, g8⟩
  clear g4 g5 g6 g7 g8 hp g1 g2 gz
  induction g3 with
  | nil => exact fun x h => by cases h
  | @cons x y xs ys q t ih =>
    intro z hz
    rcases List.mem_cons.mp hz with e | hz
    · subst e
      obtain ⟨k1, k2⟩ := hk x List.mem_cons_self
      refine ⟨?_, ?_⟩
      · rw [← q.1, ← q.2.1]; exact nk_is I _ _ _ k1 rfl
      · rw [← q.1]; exact k2
    · exact ih (fun x hx => hk x (List.mem_cons_of_mem _ hx)) z hz
theorem EP.get {ys : List (NestedKey × Addr × Value)} (h : EP xs ys) {k : NestedKey} : match xs.find? fun x => decide (x.1 = k) with
    | some x => ∃ u, atKey ys k = some (x.2.1, u) ∧ RelV x.2.2 u
    | none => atKey ys k = none := by
  induction h with
  | nil => rfl
  | @cons x y xs ys r t ih =>
    unfold atKey at ih ⊢
    rw [List.find?_cons, List.find?_cons, r.1]
    by_cases e : y.1 = k
    · rw [decide_eq_true e]
      exact ⟨y.2.2, by rw [r.2.1]; rfl, r.2.2⟩
    · rw [decide_eq_false e]
      exact ih
end
end Cp
namespace Cp
open PySem PySem.Spec L2
open PyProof.Rows hiding St
variable {K : PySem.W.Frag} {ε : Type}
/-! ### what is done with it -/
/-- p is such a dict, its keys stand -/
def IsN (P : Program) (w : World) (K : PySem.W.Frag) (H : Hp) (p : Addr) (xs : List En) : Prop := (∃ o, H p = some (dN P w p xs o)) ∧ ∀ e ∈ xs, NK K H e.1 (.ref e.2.1) ∧ e.1.depth ≤ 8
def KeyN (K : PySem.W.Frag) (H : Hp) (k : NestedKey) (a : Addr) : Prop := NK K H k (.ref a) ∧ k.depth ≤ 8
def findN (xs : List En) (k : NestedKey) : Option En := xs.find? fun x => decide (x.1 = k)
def hasN (xs : List En) (k : NestedKey) : Bool := xs.any fun x => decide (x.1 = k)
section
variable {X : Cx} {pins : List (Addr × Obj)} {σ : St} {H : Hp} {s : Shared} {p a : Addr} {xs : List En} {k : NestedKey} {e e' o : Expr} {t t' to : TE} {pos : Pos}
theorem KeyN.is (h : KeyN X.K H k a) (I : Inv X pins σ H s) : (nestedKind X.prog X.w).is s.heap k a := ⟨nk_is I k _ _ h.1 rfl, h.2⟩
theorem roomN (hu : X.A.units + 64 < cLine) : (nestedKind X.prog X.w).room X.A.in1 := by
  show X.A.in1.units + 8 < cLine
  have : X.A.in1.units = X.A.units + 1 := rfl
  omega
def rInN (P : Program) (w : World) (K : PySem.W.Frag) (neg : Bool) : R2 := fun x y H Q => ∃ p xs k a, x = .ref a ∧ y = .ref p ∧ IsN P w K H p xs ∧ KeyN K H k a ∧ Q (.bl (if neg then !hasN xs k else hasN xs k)) H
theorem op_inN (hu : X.A.units + 64 < cLine) : OpR X (compareOp .In) (rInN X.prog X.w X.K false) := by
  intro pins s σ H x y v u Q I rx ry ⟨p, xs, k, a, h1, h2, ⟨⟨o, h3⟩, h4⟩, h5, q⟩
  subst h1 h2
  cases rx; cases ry
  obtain ⟨_, hd, ys, e, D⟩ := dn_full I h3 h4
  refine wpAny_in_heap (roomN hu) (h5.is I) hd D ?_
  rw [← e.any k]
  exact ⟨.bl _, H, I.tok _, rfl, q⟩
theorem op_notInN (hu : X.A.units + 64 < cLine) : OpR X (compareOp .NotIn) (rInN X.prog X.w X.K true) := by
  intro pins s σ H x y v u Q I rx ry ⟨p, xs, k, a, h1, h2, ⟨⟨o, h3⟩, h4⟩, h5, q⟩
  subst h1 h2
  cases rx; cases ry
  obtain ⟨_, hd, ys, e, D⟩ := dn_full I h3 h4
  refine notIn_keyed (roomN hu) (h5.is I) hd ⟨ys, D, rfl⟩ ?_
  rw [valueAt_pairsH, Option.isSome_map, ← e.any k]
  exact ⟨.bl _, H, I.tok _, rfl, q⟩
/-- d[k] -/
def tGetN (P : Program) (w : World) (K : PySem.W.Frag) (td ty : TE) : TE := fun σ H Q => td σ H fun x H1 => ty σ H1 fun y H2 => ∃ p xs k a z, x = .ref p ∧ y = .ref a ∧ IsN P w K H2 p xs ∧ KeyN K H2 k a ∧ findN xs k = some z ∧ Q z.2.2 H2
theorem pe_getN (hu : X.A.units + 64 < cLine) (ho : PE X e t) (hi : PE X e' t') (hs : NoSl e') : PE X (.Subscript e e' pos) (tGetN X.prog X.w X.K t t') := by
  refine ⟨fun pins s σ H Q I h => ?_⟩
  refine subD_of PySem.F.slot_dict_getitem.lookup hs (thn (ho.run pins s σ H _ I h) fun u s1 ⟨x, H1, I1, rx, q1⟩ => thn (hi.run pins s1 σ H1 _ I1 q1) fun iv s2 ⟨y, H2, I2, ry, p, xs, k, a, z, ex, ey, ⟨⟨o, h3⟩, h4⟩, h5, hz, q2⟩ => ?_)
  subst ex ey
  cases rx; cases ry
  obtain ⟨_, hd, ys, e, D⟩ := dn_full I2 h3 h4
  have g := e.get (k := k)
  rw [show (xs.find? fun x => decide (x.1 = k)) = some z from hz] at g
  obtain ⟨u, g1, g2⟩ := g
  exact ⟨D.typeIs, wpAny_getItem_heap (roomN hu) (h5.is I2) D g1 ⟨z.2.2, H2, I2.tok _, g2, q2⟩⟩
/-- d[k] = v -/
def rSetN (P : Program) (w : World) (K : PySem.W.Frag) : V → V → V → Hp → (Hp → Prop) → Prop := fun o i v H Q => ∃ p xs k a, o = .ref p ∧ i = .ref a ∧ IsN P w K H p xs ∧ KeyN K H k a ∧ xs.length < sizeLine ∧ ∀ o', Q (upd H p (dN P w p (stN xs k a v) o'))
theorem dn_put {o : Obj} {ys : List (NestedKey × Addr × Value)} {h' : Heap} {v : V} {u : Value} {n : Nat} (I : Inv X pins σ H s) (hp : H p = some (dN X.prog X.w p xs o)) (hd : (p == sysModules) = false) (e : EP xs ys) (r : RelV v u) (hl : xs.length < sizeLine)
    (D : h'.DictOfH (nestedKind X.prog X.w) p (storedH ys k a u)) (hs : Heap.SameBut p s.heap h') : ∃ o', Inv X pins σ (upd H p (dN X.prog X.w p (stN xs k a v) o')) { s with heap := h', toks := n } := by
  obtain ⟨o', ho⟩ : ∃ q, h'.get? p = some q := let ⟨q, _, _, hq, _⟩ := D; ⟨q, hq⟩
  exact ⟨o', d_write I (by rw [hp]; trivial) hs ⟨o', ho⟩ (dn_new (by have := stN_len xs k a v; omega) hd (e.st k a r) D ho)⟩
theorem set_N (hu : X.A.units + 64 < cLine) : PSet X (rSetN X.prog X.w X.K) := by
  intro pins s σ H _ _ v ov iv u Q I ro ri rv ⟨p, xs, k, a, h1, h2, ⟨⟨o, h3⟩, h4⟩, h5, hl, q⟩
  subst h1 h2
  cases ro; cases ri
  obtain ⟨hz, hd, ys, e, D⟩ := dn_full I h3 h4
  exact wpAny_setItem_heap (roomN hu) (h5.is I) D (fun h' D' hs => let ⟨o', I'⟩ := dn_put I h3 hd e rv hl D' hs; ⟨_, I', q o'⟩) (hsz := by rw [← Paired.length e]; exact hz)
/-- {} -/
def oN : Obj := { cls := .type "dict", data := .dict #[] }
def tNewN (P : Program) (w : World) : TE := fun _ H Q => ∀ p, H p = none → Q (.ref p) (upd H p (dN P w p [] oN))
theorem dn_empty {P : Program} {w : World} {H : Hp} (h : Heap) (hb : sysModules < h.objs.size) : ObjOk P w H (h.push { cls := .type "dict", data := .dict #[] }) h.objs.size (dN P w h.objs.size [] oN) :=
  dn_new (Nat.zero_le _) (beq_eq_false_iff_ne.mpr (Ne.symm (Nat.ne_of_lt hb))) .nil (Heap.DictOfH.new h) (Heap.get?_push_size _ rfl)
theorem pe_newN : PE X (.Dict [] [] pos) (tNewN X.prog X.w) := ⟨fun pins s σ H Q I h =>
  wpAny_Dict_empty ⟨.ref s.heap.objs.size, _, I.laid (a := s.heap.objs.size) (t' := s.toks) (fun _ _ q => Heap.get?_push_of_some _ q) (Nat.le_refl _) (dn_empty s.heap I.big), rfl, h _ (I.hok.fresh (Nat.le_refl _))⟩⟩
end

/-! ### dicts as data -/
section
variable {α β : Type} (P : Program) (w : World) {T : Ty K α} (k : Ky K T) (U : Ty K β)
def ER (F : Hp) (x : En) (a : α × β) : Prop := x.1 = k.key a.1 ∧ T.rel a.1 F (.ref x.2.1) ∧ U.rel a.2 F x.2.2
def cDic : Ct K (List (α × β)) := ⟨fun l F p o => ∃ xs ob, o = dN P w p xs ob ∧ Paired (ER k U F) xs l, fun e ⟨xs, ob, h, r⟩ => ⟨xs, ob, h, Paired.mapP r fun x a q => ⟨q.1, T.mono e q.2.1, U.mono e q.2.2⟩⟩, fun ⟨xs, ob, h, _⟩ => by subst h; trivial⟩
def yDic : Ty K (List (α × β)) := (cDic P w k U).ty
end
section
variable {α β : Type} {P : Program} {w : World} {T : Ty K α} {k : Ky K T} {U : Ty K β} {F : Hp} {xs : List En} {l : List (α × β)}
def dget [DecidableEq α] (l : List (α × β)) (a : α) : Option β := (l.find? fun x => decide (x.1 = a)).map (·.2)
def dhas [DecidableEq α] (l : List (α × β)) (a : α) : Bool := l.any fun x => decide (x.1 = a)
def dput [DecidableEq α] (l : List (α × β)) (a : α) (b : β) : List (α × β) := if dhas l a then l.map fun x => if x.1 = a then (x.1, b) else x else l ++ [(a, b)]
theorem er_has [DecidableEq α] (r : Paired (ER k U F) xs l) (a : α) : hasN xs (k.key a) = dhas l a := by
  unfold hasN dhas
  induction r with
  | nil => rfl
  | @cons x y xs l q t ih =>
    rw [List.any_cons, List.any_cons, ih, q.1]
    congr 1
    by_cases e : y.1 = a
    · simp [e]
    · rw [decide_eq_false e, decide_eq_false fun z => e (k.inj z)]
theorem er_find [DecidableEq α] (r : Paired (ER k U F) xs l) {a : α} {b : β} (h : dget l a = some b) : ∃ z, findN xs (k.key a) = some z ∧ U.rel b F z.2.2 := by
  unfold findN
  unfold dget at h
  induction r with
  | nil => cases h
  | @cons x y xs l q t ih =>
    rw [List.find?_cons] at h ⊢
    rw [q.1]
    by_cases e : y.1 = a
    · rw [decide_eq_true e] at h
      rw [decide_eq_true (congrArg k.key e)]
      cases h
      exact ⟨x, rfl, q.2.2⟩
    · rw [decide_eq_false e] at h
      rw [decide_eq_false fun z => e (k.inj z)]
      exact ih h
theorem er_put [DecidableEq α] (r : Paired (ER k U F) xs l) {a : α} {b : β} {q : Addr} {v : V} (ha : T.rel a F (.ref q)) (hb : U.rel b F v) : Paired (ER k U F) (stN xs (k.key a) q v) (dput l a b) := by
  have h := er_has r a
  unfold stN dput
  rw [show (xs.any fun x => decide (x.1 = k.key a)) = dhas l a from h]
  split
  · rename_i hz
    clear hz h
    induction r with
    | nil => exact .nil
    | @cons x y xs l q t ih =>
      rw [List.map_cons, List.map_cons]
      refine .cons ?_ ih
      rw [q.1]
      by_cases e : y.1 = a
      · rw [if_pos e, if_pos (congrArg k.key e)]; exact ⟨rfl, q.2.1, hb⟩
      · rw [if_neg e, if_neg fun z => e (k.inj z)]; exact q
  · exact prd_app r (.cons ⟨rfl, ha, hb⟩ .nil)
theorem er_keys (r : Paired (ER k U F) xs l) (hd : k.d ≤ 8) {H : Hp} (e : Same F H) : ∀ x ∈ xs, NK K H x.1 (.ref x.2.1) ∧ x.1.depth ≤ 8 := by
  induction r with
  | nil => exact fun x h => by cases h
  | @cons x y xs l q t ih =>
    intro z hz
    rcases List.mem_cons.mp hz with e2 | hz
    · subst e2
      rw [q.1]
      exact ⟨NK.mono e _ _ (k.is q.2.1), Nat.le_trans (k.dep _) hd⟩
    · exact ih z hz
end
section
variable {α β : Type} [DecidableEq α] {X : Cx} {J : Jc X.K ε} {ρ : Ev X.K} {e e' : Expr} {t t' : TE} {pos : Pos} {μ ν : Md} {T : Ty X.K α} {k : Ky X.K T} {U : Ty X.K β} {md : R ε (List (α × β))} {mk : R ε α}
/-- a key is a tuple: it stands at an address -/
structure AtRef {α : Type} (T : Ty K α) : Prop where
  at_ : ∀ {a : α} {F : Hp} {v : V}, T.rel a F v → ∃ p, v = .ref p
theorem ar_tup {U : Tys K α} : AtRef (yTup U) := ⟨fun ⟨p, _, h, _⟩ => ⟨p, h⟩⟩
theorem dic_at {F H : Hp} {l : List (α × β)} {v : V} (hd : k.d ≤ 8) (fh : Same F H) (r : (yDic X.prog X.w k U).rel l F v) : ∃ p xs, v = .ref p ∧ IsN X.prog X.w X.K H p xs ∧ Paired (ER k U F) xs l := by
  obtain ⟨p, o, h1, h2, xs, ob, h3, h4⟩ := r
  subst h3
  exact ⟨p, xs, h1, ⟨⟨ob, fh _ _ h2⟩, er_keys h4 hd fh⟩, h4⟩
theorem key_at {F H : Hp} {a : α} {v : V} (ar : AtRef T) (hd : k.d ≤ 8) (fh : Same F H) (r : T.rel a F v) : ∃ q, v = .ref q ∧ KeyN X.K H (k.key a) q := by
  obtain ⟨q, h⟩ := ar.at_ r
  subst h
  exact ⟨q, rfl, NK.mono fh _ _ (k.is r), Nat.le_trans (k.dep a) hd⟩
theorem dq_inN (ar : AtRef T) (hu : X.A.units + 64 < cLine) (ha : DE X J ρ e t (rV μ T) mk) (hb : DE X J ρ e' t' (rV ν (yDic X.prog X.w k U)) md) (hd : k.d ≤ 8 := by exact lo rfl) (hm : behindInMarks .In e' = false := by rfl) :
    DQ X J ρ (.Compare e [.In] [e'] pos) (tOp (rInN X.prog X.w X.K false) t t') (mk.bind fun a => md.bind fun l => .ok (dhas l a)) :=
  dq_cmp (op_inN hu) hm ha hb fun b F σ H x y v w Q S r1 r2 q => by
    obtain ⟨a, h1, h2⟩ := key_at (k := k) ar hd (Md.le S μ) r1
    obtain ⟨p, xs, h3, h4, h5⟩ := dic_at hd (Md.le S ν) r2
    refine ⟨p, xs, k.key x, a, h1, h3, h4, h2, ?_⟩
    rw [if_neg Bool.false_ne_true, er_has h5]
    exact PostE.here q S rfl
theorem dq_notInN (ar : AtRef T) (hu : X.A.units + 64 < cLine) (ha : DE X J ρ e t (rV μ T) mk) (hb : DE X J ρ e' t' (rV ν (yDic X.prog X.w k U)) md) (hd : k.d ≤ 8 := by exact lo rfl) (hm : behindInMarks .NotIn e' = false := by rfl) :
    DQ X J ρ (.Compare e [.NotIn] [e'] pos) (tOp (rInN X.prog X.w X.K true) t t') (mk.bind fun a => md.bind fun l => .ok (!dhas l a)) :=
  dq_cmp (op_notInN hu) hm ha hb fun b F σ H x y v w Q S r1 r2 q => by
    obtain ⟨a, h1, h2⟩ := key_at (k := k) ar hd (Md.le S μ) r1
    obtain ⟨p, xs, h3, h4, h5⟩ := dic_at hd (Md.le S ν) r2
    refine ⟨p, xs, k.key x, a, h1, h3, h4, h2, ?_⟩
    rw [if_pos rfl, er_has h5]
    exact PostE.here q S rfl
def rGet (l : List (α × β)) (a : α) : R ε β := unO (dget l a)
theorem de_getN (ar : AtRef T) (hu : X.A.units + 64 < cLine) (hb : DE X J ρ e t (rV ν (yDic X.prog X.w k U)) md) (ha : DE X J ρ e' t' (rV μ T) mk) (hd : k.d ≤ 8 := by exact lo rfl) (hs : NoSl e' := by exact fun _ _ => rfl) :
    DE X J ρ (.Subscript e e' pos) (tGetN X.prog X.w X.K t t') (rV ν U) (md.bind fun l => mk.bind fun a => rGet l a) :=
  ⟨pe_getN hu hb.pe ha.pe hs, fun b F σ H Q S q => hb.ev.then_ S q fun l F1 v H1 g1 S1 r1 q1 => ha.ev.then_ S1 q1 fun a F2 u H2 g2 S2 r2 q2 => by
    have r1 := Ty.mono (yDic X.prog X.w k U) (Md.mono g2 S1 ν) r1
    obtain ⟨p, xs, h3, h4, h5⟩ := dic_at hd (Md.le S2 ν) r1
    obtain ⟨c, h1, h2⟩ := key_at (k := k) ar hd (Md.le S2 μ) r2
    unfold rGet at q2
    cases z : dget l a with
    | none => rw [z] at q2; exact q2.elim
    | some y =>
      rw [z] at q2
      obtain ⟨zz, g1, g2⟩ := er_find h5 z
      exact ⟨p, xs, k.key a, c, zz, h3, h1, h4, h2, g1, PostE.here q2 S2 g2⟩⟩
theorem de_newN : DE X J ρ (.Dict [] [] pos) (tNewN X.prog X.w) (rF (cDic X.prog X.w k U)) (.ok ([] : List (α × β))) :=
  ⟨pe_newN, fun b F σ H Q S q p hp => q F _ _ (Gr.newH hp) (S.newH hp) ⟨p, _, rfl, hp, upd_same, S.freshF hp, [], _, rfl, .nil⟩⟩
theorem own_dic {b : B} {F : Hp} {σ : St} {H : Hp} {i : Nat} {l : List (α × β)} {P : Program} {w : World} {T : Ty K α} {k : Ky K T} {U : Ty K β} {ρ : Ev K} (S : Sta b ρ F σ H) (hi : ρ[i]? = some (some (.ow (cDic P w k U) l))) : ∃ p xs o, σ[i]? = some (some (.ref p)) ∧ H p = some (dN P w p xs o) ∧ Paired (ER k U F) xs l := by
  obtain ⟨v, e1, p, o, rfl, h1, h2, h3, xs, ob, rfl, h4⟩ := S.sl i _ hi
  exact ⟨p, xs, ob, e1, h1, h4⟩
/-- d[k] = v, an own dict -/
theorem ds_setN {i : Nat} {l : List (α × β)} {mv : R ε β} {o : Expr} {p2 : Pos} (ar : AtRef T) (hu : X.A.units + 64 < cLine) (ho : PE X o (tVar i)) (hi : ρ[i]? = some (some (.ow (cDic X.prog X.w k U) l))) (hk : DE X J ρ e' t' (rP T) mk) (ha : DE X J ρ e t (rP U) mv) (hd : k.d ≤ 8 := by exact lo rfl)
    (hs : swapsWithSole [.Subscript o e' p2] e pos.line X.env = pure false := by rfl) (hw : swappedStores [.Subscript o e' p2] e X.env = pure none := by rfl) (h1 : (assignEach [.Subscript o e' p2] X.env).map (·.2) = [assign (.Subscript o e' p2) X.env] := by rfl)
    (hA : ∀ v, assign (.Subscript o e' p2) X.env v = (do
      let ov ← holding [v] (eval o X.env)
      let iv ← holding [v, ov] (eval e' X.env)
      standAt p2
      holding [v, ov, iv] (setItem ov iv v)
      release [v, ov, iv] []) := by intro _; rfl) :
    DS1 X J ρ (.Assign [.Subscript o e' p2] e pos) (tAsg t (gSub (tVar i) t' (rSetN X.prog X.w X.K))) (fun (c : α × β) => .nx (ρ.set i (some (.ow (cDic X.prog X.w k U) (dput l c.1 c.2))))) (mv.bind fun b => mk.bind fun a => rApp l (a, b)) :=
  ⟨ps_asg ha.pe (pg_sub ho hk.pe (set_N hu) hA) hs hw h1, fun b F σ H D S q => ha.ev.thenS S q fun a F1 v H1 g1 S1 r1 q1 => by
    obtain ⟨p, xs, o1, e1, hp, h2⟩ := own_dic S1 hi
    refine ⟨_, e1, hk.ev.thenS S1 q1 fun c F2 u H2 g2 S2 r2 q2 => ?_⟩
    obtain ⟨p', xs', o2, e1', hp', h2'⟩ := own_dic S2 hi
    rw [e1] at e1'; cases e1'
    obtain ⟨kq, h3, h4⟩ := key_at (k := k) ar hd S2.fh r2
    subst h3
    unfold rApp at q2
    by_cases hz : l.length < sizeLine
    · rw [if_pos hz] at q2
      exact ⟨p, xs', k.key c, kq, rfl, rfl, ⟨⟨o2, hp'⟩, er_keys h2' hd S2.fh⟩, h4, by rw [Paired.length h2']; exact hz, fun o' => q2 F2 σ _ (Same.refl _) (S2.change hi e1 ⟨_, o', rfl, er_put h2' r2 (U.mono g2.f r1)⟩)⟩
    · rw [if_neg hz] at q2; exact q2.elim⟩
/-- an own dict is given up; looked at -/
theorem de_ownD {l : List (α × β)} {i : Nat} {P : Program} {w : World} (hp : PE X e (tVar i)) (hi : ρ[i]? = some (some (.ow (cDic P w k U) l))) : DE X J ρ e (tVar i) (rB (yDic P w k U)) (.ok l) := de_own hp hi fun h => h
theorem ds_giveC {τ α : Type} {C : Ct X.K α} {I : τ → Oc X.K} {m : R ε τ} {i : Nat} {a : α} {sts : List Stmt} {ts : TS} (hi : ρ[i]? = some (some (.ow C a))) (h : DS X J (ρ.set i (some (.pl C.ty a))) sts ts I m) : DS X J ρ sts ts I m :=
  ⟨h.ps, fun b F σ H D S q => by
    obtain ⟨F', sf, S'⟩ := S.give hi fun h => h
    exact h.ev b F' σ H D S' (PostS.later sf q)⟩
end
end Cp

/-! The data layer: dict displays over a walk, any kind of dict. -/
namespace Cp
open PySem PySem.Spec L2
open PyProof.Rows hiding St
variable {K : PySem.W.Frag} {ε : Type}
/-- a store by a display: D the dict, the key, the value -/
abbrev RPut := Addr → V → V → Hp → (Hp → Prop) → Prop
def PPut (X : Cx) (r : RPut) : Prop := ∀ (pins : List (Addr × Obj)) (s : Shared) (σ : St) (H : Hp) (D : Addr) (y z : V) (u v : Value) (Q : Hp → Prop), Inv X pins σ H s → RelV y u → RelV z v → r D y z H Q →
  wpAny (model X.prog X.w) X.A (dictSet D u v) (fun _ t => ∃ G, Inv X pins σ G t ∧ Q G) X.xe s
/-- the new dict's object -/
def PNew (X : Cx) (o : Addr → HO) : Prop := ∀ (H : Hp) (h : Heap), sysModules < h.objs.size → ObjOk X.prog X.w H (h.push { cls := .type "dict", data := .dict #[] }) h.objs.size (o h.objs.size)
def tDcG (o : Addr → HO) (r : RPut) (wi : TI) (g : TG) (tt : TT) (tk tv : TE) (vs : List Nat) : TE := fun σ H Q => wi σ H fun It G => ∀ D, G D = none → ∃ W : Nat → Nat → Hp → Prop, (∃ m, W 0 m (upd G D (o D))) ∧ ∀ i m H, W i m H →
  (It.stop i H ∧ Q (.ref D) H) ∨ (It.go i H ∧ ∃ Z : Hp → Prop, (∀ G, Z G → ∃ m', m' < m ∧ W (i + 1) m' G) ∧ ∀ x G, It.yld i H x G → g x (wipe σ vs) G fun τ G1 => wipe τ vs = wipe σ vs ∧ tt τ G1 fun b G2 => if b then tk τ G2 fun y G3 => tv τ G3 fun z G4 => r D y z G4 Z else Z G2)
section
variable {X : Cx} {kx vx tg iter : Expr} {ifs : List Expr} {scope : Scope} {own : List (Str × Nat)} {pos : Pos} {wi : TI} {g : TG} {tt : TT} {tk tv : TE} {o : Addr → HO} {r : RPut}
theorem dcG_core {pins : List (Addr × Obj)} {s : Shared} {σ : St} {H : Hp} {Q : VK} {posn : Pos} {use : Option (Value → Sem Unit)} {Qf : Value → Shared → Prop} (hc : X.calm = true) (hN : X.N.Nodup) (I : Inv X pins σ H s) (hi : PI X tg iter wi) (ok : BlkOk X.N X.env.scope scope own) (hn : PNew X o)
    (hr : ∀ (s : Shared) (H : Hp) (C : Addr) (cl : List (Str × Addr)) (fp : List Addr), PPut (Blk X scope s H C cl fp) r)
    (hg : ∀ (s : Shared) (H : Hp) (C : Addr) (cl : List (Str × Addr)) (fp : List Addr), PG (Blk X scope s H C cl fp) tg g) (ht : ∀ (s : Shared) (H : Hp) (C : Addr) (cl : List (Str × Addr)) (fp : List Addr), PTs (Blk X scope s H C cl fp) ifs tt)
    (hk : ∀ (s : Shared) (H : Hp) (C : Addr) (cl : List (Str × Addr)) (fp : List Addr), PE (Blk X scope s H C cl fp) kx tk) (hv : ∀ (s : Shared) (H : Hp) (C : Addr) (cl : List (Str × Addr)) (fp : List Addr), PE (Blk X scope s H C cl fp) vx tv) (hs : ∀ x, foldedSetIterable iter X.env x = pure x)
    (h : tDcG o r wi g tt tk tv (own.map (·.2)) σ H Q) (out : ∀ D C t m G, Inv X pins σ G t → Q (.ref D) G → t.heap.Ns C m → FpOk X pins G C → compPost (model X.prog X.w) X.A X.xe use Qf (.ref D) C (.ok .next) t) :
    wpAny (model X.prog X.w) X.A (comprehension (.DictComp kx vx [⟨tg, iter, ifs, 0⟩] scope pos) scope X.env posn newDict false (eval iter X.env) use) Qf X.xe s := by
  have fr : ∀ y ∈ scope.names, y.2 = .free → ∃ c, X.env.cells.lookup y.1 = some c := fun y hy e => (ok.free y hy e).elim (fun z => I.ok.has _ (.inl z)) fun z => I.ok.has _ (.inr z)
  refine wpAny_comprehension_free (use := use) rfl hs (closure_ok fr) ok.kind (fun y hy e => (ok.uniq y hy).trans (congrArg some e)) (thn (hi.run pins s σ H _ I h) fun xv sa ha => thn ha fun itv sb hb => ?_)
  obtain ⟨it, fp, tn, It, Hb, e0, Ib, T, stb, fpb, q⟩ := hb
  subst e0
  refine wpAny_newObj_type (newEnv_comp ?_)
  generalize eD : sb.heap.objs.size = D
  have nD : Hb D = none := Ib.hok.fresh (Nat.le_of_eq eD)
  obtain ⟨W, ⟨m0, w0⟩, turn⟩ := q D nD
  generalize ec : ({ sb with heap := sb.heap.push { cls := .type "dict", data := .dict #[] } } : Shared) = sc
  have hcH : sc.heap = sb.heap.push { cls := .type "dict", data := .dict #[] } := by rw [← ec]
  have Ic : Inv X pins σ (upd Hb D (o D)) sc := by
    rw [← ec]
    exact Ib.laid (t' := sb.toks) (fun b u e => Heap.get?_push_of_some _ e) (Nat.le_of_eq eD) (by rw [← eD]; exact hn _ _ Ib.big)
  have small : ∀ b ∈ fp, b < sb.heap.objs.size := fun b hb => let ⟨u, e, _⟩ := T.obj _ _ stb b hb; Heap.lt_size e
  have fpc : ∀ b ∈ fp, FpOk X pins (upd Hb D (o D)) b ∧ b < sc.heap.objs.size := fun b hb => ⟨⟨by rw [upd_ne (by rw [← eD]; exact Nat.ne_of_lt (small b hb))]; exact (fpb b hb).1, (fpb b hb).2⟩, by rw [hcH, Heap.size_push]; exact Nat.lt_succ_of_lt (small b hb)⟩
  have stc : tn 0 sc.heap := T.keep _ _ _ stb fun b _ u e => by rw [hcH]; exact Heap.get?_push_of_some _ e
  have Id := block_start Ic ok hN fpc
  generalize eH : upd Hb D (o D) = Hc at Ic Id w0 fpc
  have pg := hg sc Hc sc.heap.objs.size (cellsFrom (sc.heap.objs.size + 1) scope.names (cloFrom X.env.cells scope.names [])) fp
  have pt := ht sc Hc sc.heap.objs.size (cellsFrom (sc.heap.objs.size + 1) scope.names (cloFrom X.env.cells scope.names [])) fp
  have pk := hk sc Hc sc.heap.objs.size (cellsFrom (sc.heap.objs.size + 1) scope.names (cloFrom X.env.cells scope.names [])) fp
  have pv := hv sc Hc sc.heap.objs.size (cellsFrom (sc.heap.objs.size + 1) scope.names (cloFrom X.env.cells scope.names [])) fp
  have pr := hr sc Hc sc.heap.objs.size (cellsFrom (sc.heap.objs.size + 1) scope.names (cloFrom X.env.cells scope.names [])) fp
  have nfp : ∀ b ∈ fp, Hc b = none := fun b hb => (fpc b hb).1.1
  show codeAny _ _ (.compStart (.DictComp kx vx [⟨tg, iter, ifs, 0⟩] scope pos) 0 (.ref it) (.ref D) (compEnvC scope (cellsFrom (sc.heap.objs.size + 1) scope.names (cloFrom X.env.cells scope.names [])) sc.heap.objs.size X.env)) (compPost (model X.prog X.w) X.A X.xe use Qf (.ref D) sc.heap.objs.size) { sc with heap := pushCells (sc.heap.push { cls := .type "dict", data := .dict #[] }) scope.names }
  unfold Blk at pg pt pk pv pr
  generalize ee : compEnvC scope (cellsFrom (sc.heap.objs.size + 1) scope.names (cloFrom X.env.cells scope.names [])) sc.heap.objs.size X.env = ce at Id pg pt pk pv pr ⊢
  have cL : ce.locals = sc.heap.objs.size := by rw [← ee]; rfl
  generalize ed : ({ sc with heap := pushCells (sc.heap.push { cls := .type "dict", data := .dict #[] }) scope.names } : Shared) = sd at Id ⊢
  have std : tn 0 sd.heap := T.keep _ _ _ stc fun b _ u e => by rw [← ed]; exact pushCells_keeps _ _ _ _ (Heap.get?_push_of_some _ e)
  have stat : ∀ {τ : St} {G : Hp} {t : Shared}, Inv (X.blk sc Hc scope ce fp) [] τ G t → (∀ b ∈ fp, G b = none) → ∀ b ∈ fp, FpOk (X.blk sc Hc scope ce fp) [] G b := fun {τ G t} J z b hb =>
    ⟨z b hb, (J.ok.exf b hb).1, J.ok.exfs b hb, .inl hb, fun x c e => (J.ok.exf b hb).2 x c e, fun p hp => absurd (show p ∈ ([] : List (Addr × Obj)) ++ [] from hp) (by simp)⟩
  refine codeAny_compStart_dict ?lp (T.self X.A 0 _ _ _ std ?lp)
  refine compLoop_anyD (fun n t => ∃ i G, Inv (X.blk sc Hc scope ce fp) [] (wipe σ (own.map (·.2))) G t ∧ tn i t.heap ∧ (∀ b ∈ fp, G b = none) ∧ W i n G) ?_ m0 ⟨0, Hc, Id, std, nfp, w0⟩
  rintro n s5 ⟨i, H5, I5, st5, n5, w5⟩
  rcases turn i n H5 w5 with ⟨stop, fin⟩ | ⟨go, Z, hZ, step⟩
  · refine thnF (T.done (X.blk sc Hc scope ce fp) rfl rfl rfl hc i [] s5 _ H5 (fun _ _ => False) I5 (stat I5 n5) st5 stop) fun rv s6 ⟨erv, I6⟩ => ?_
    subst erv
    have I7 : Inv X pins σ H5 s6 := Ic.call' (ch := fp) I6.os I6.base I6.hok I6.bare fun b hb => let z := (fpc b hb).1.2; ⟨z.2.2.1, z.1, z.2.2.2.1, z.2.2.2.2⟩
    have nC : H5 sc.heap.objs.size = none := by rw [← cL]; exact I6.free
    obtain ⟨mm, hmm, _⟩ := I6.loc
    have hmm : s6.heap.Ns ce.locals mm := hmm
    rw [cL] at hmm
    exact out D sc.heap.objs.size s6 mm H5 I7 fin hmm (Ic.fpOk (Nat.le_refl _) nC)
  · refine thnF (T.item (X.blk sc Hc scope ce fp) rfl rfl rfl hc i [] s5 _ H5 (fun _ _ => False) I5 (stat I5 n5) st5 go) fun rv s6 ⟨u, erv, h6⟩ => ?_
    subst erv
    refine thnF h6 fun _ s7 ⟨x, H7, I7, r7, y7, st7, n7⟩ => ?_
    refine thnF (pg.run _ s7 _ H7 x u _ (I7.pinned (stat I7 n7) (T.obj _ _ st7)) r7 (step x H7 y7)) fun _ s8 ⟨τ, H8, I8, hw8, q8⟩ => thnF (pt.run _ s8 τ H8 _ I8 q8) fun b s9 ⟨H9, I9, q9⟩ => ?_
    have back : ∀ {t : Shared} {G : Hp}, Inv (X.blk sc Hc scope ce fp) ([] ++ pinsAt fp s7.heap) τ G t → Z G → ∃ m, m < n ∧ ∃ i G, Inv (X.blk sc Hc scope ce fp) [] (wipe σ (own.map (·.2))) G t ∧ tn i t.heap ∧ (∀ b ∈ fp, G b = none) ∧ W i m G := fun {t G} J zg => by
      obtain ⟨m', hm, w'⟩ := hZ G zg
      have pin : ∀ b ∈ fp, ∀ u, s7.heap.get? b = some u → t.heap.get? b = some u ∧ G b = none := fun b hb u e => let z := J.pin (b, u) (List.mem_append_right _ (List.mem_append_right _ (mem_pinsAt hb e))); ⟨z.1, z.2.1⟩
      refine ⟨m', hm, i + 1, G, (J.unpinned (pins := [])).weak (by rw [← hw8, wipe_length]) (fun j v e => (wipe_some (by rw [hw8]; exact e)).1), T.keep _ _ _ st7 fun b hb u e => (pin b hb u e).1, fun b hb => ?_, w'⟩
      obtain ⟨u, e, _⟩ := T.obj _ _ st7 b hb
      exact (pin b hb u e).2
    cases b with
    | false => exact back I9 q9
    | true => exact thnF (pk.run _ s9 τ H9 _ I9 q9) fun kv s10 ⟨yk, H10, I10, r10, q10⟩ => thnF (pv.run _ s10 τ H10 _ I10 q10) fun vv s11 ⟨yv, H11, I11, r11, q11⟩ => thnF (pr _ s11 τ H11 D yk yv kv vv Z I11 r10 r11 q11) fun _ s12 ⟨G, J, zg⟩ => back J zg
/-- as a value -/
theorem pe_dcG (hc : X.calm = true) (hN : X.N.Nodup) (hi : PI X tg iter wi) (ok : BlkOk X.N X.env.scope scope own) (hn : PNew X o)
    (hr : ∀ (s : Shared) (H : Hp) (C : Addr) (cl : List (Str × Addr)) (fp : List Addr), PPut (Blk X scope s H C cl fp) r)
    (hg : ∀ (s : Shared) (H : Hp) (C : Addr) (cl : List (Str × Addr)) (fp : List Addr), PG (Blk X scope s H C cl fp) tg g) (ht : ∀ (s : Shared) (H : Hp) (C : Addr) (cl : List (Str × Addr)) (fp : List Addr), PTs (Blk X scope s H C cl fp) ifs tt)
    (hk : ∀ (s : Shared) (H : Hp) (C : Addr) (cl : List (Str × Addr)) (fp : List Addr), PE (Blk X scope s H C cl fp) kx tk) (hv : ∀ (s : Shared) (H : Hp) (C : Addr) (cl : List (Str × Addr)) (fp : List Addr), PE (Blk X scope s H C cl fp) vx tv) (hs : ∀ x, foldedSetIterable iter X.env x = pure x) :
    PE X (.DictComp kx vx [⟨tg, iter, ifs, 0⟩] scope pos) (tDcG o r wi g tt tk tv (own.map (·.2))) := by
  refine ⟨fun pins s σ H Q I h => ?_⟩
  rw [arm_eval_DictComp]
  refine dcG_core hc hN I hi ok hn hr hg ht hk hv hs h fun D C t m G J q hm f => ⟨m, hm, fun h'' sbut => ?_⟩
  obtain ⟨f0, f1, f2, f3, f4, f5⟩ := f
  exact ⟨.ref D, G, J.turned (t' := t.toks) (fun b u hb e => (sbut.2 b hb).trans e) f0 f1 f3 f4 f5, rfl, q⟩
/-- y = {..} where the display stores by itself -/
theorem ps_setDcG {i : Nat} {y : Str} {py spos : Pos} (hc : X.calm = true) (hN : X.N.Nodup) (hy : X.N[i]? = some y) (hyl : X.env.scope.names.lookup y = some .local)
    (hsw : swapsWith (.DictComp kx vx [⟨tg, iter, ifs, 0⟩] scope pos) (some (.Name y py)) spos.line X.env = pure true) (hi : PI X tg iter wi) (ok : BlkOk X.N X.env.scope scope own) (hn : PNew X o)
    (hr : ∀ (s : Shared) (H : Hp) (C : Addr) (cl : List (Str × Addr)) (fp : List Addr), PPut (Blk X scope s H C cl fp) r)
    (hg : ∀ (s : Shared) (H : Hp) (C : Addr) (cl : List (Str × Addr)) (fp : List Addr), PG (Blk X scope s H C cl fp) tg g) (ht : ∀ (s : Shared) (H : Hp) (C : Addr) (cl : List (Str × Addr)) (fp : List Addr), PTs (Blk X scope s H C cl fp) ifs tt)
    (hk : ∀ (s : Shared) (H : Hp) (C : Addr) (cl : List (Str × Addr)) (fp : List Addr), PE (Blk X scope s H C cl fp) kx tk) (hv : ∀ (s : Shared) (H : Hp) (C : Addr) (cl : List (Str × Addr)) (fp : List Addr), PE (Blk X scope s H C cl fp) vx tv) (hs : ∀ x, foldedSetIterable iter X.env x = pure x) :
    PS X (.Assign [.Name y py] (.DictComp kx vx [⟨tg, iter, ifs, 0⟩] scope pos) spos) (tAsg (tDcG o r wi g tt tk tv (own.map (·.2))) (gName i)) := by
  refine ⟨fun pins s σ H D I h => ?_⟩
  rw [exec_Assign_Name_used _ _ _ _ hsw]
  refine wpAny_bind (wpAny_standAt (wpAny_bind ?_))
  show wpAny _ X.A (do let _ ← comprehension (.DictComp kx vx [⟨tg, iter, ifs, 0⟩] scope pos) scope X.env (firstIterPos [⟨tg, iter, ifs, 0⟩] pos) newDict false (eval iter X.env) (some (assign (.Name y py) X.env))) _ _ s
  replace h : tDcG o r wi g tt tk tv (own.map (·.2)) σ H (fun x G => gName i x σ G D.nx) := h
  refine wpAny_bind (thn (dcG_core (Qf := fun _ t => SP X pins D .next t) hc hN I hi ok hn hr hg ht hk hv hs h fun L C t m G J q hm f => ?_) fun _ t hq => wpAny_pure (wpAny_pure hq))
  obtain ⟨f0, f1, f2, f3, f4, f5⟩ := f
  show wpAny _ _ (assign (.Name y py) X.env (.ref L)) _ _ _
  refine wpAny_assign_Name (store_ok2 (v := V.ref L) J hN hy (.inl hyl) rfl (fun s2 J2 ⟨c, sb, hcc⟩ => ⟨m, hm.sameBut sb (hcc.elim (fun z => by rw [z]; exact f1) fun z e => f4 y c z e.symm), fun h3 sb3 => ⟨_, G, J2.turned (t' := s2.toks) (fun b u hb e => (sb3.2 b hb).trans e) f0 f1 f3 f4 f5, q⟩⟩) (.inr hyl))
end
end Cp
namespace Cp
open PySem PySem.Spec L2
open PyProof.Rows hiding St
variable {K : PySem.W.Frag} {ε : Type}
def rPutN (P : Program) (w : World) (K : PySem.W.Frag) : RPut := fun D y z H Q => ∃ xs k a, y = .ref a ∧ IsN P w K H D xs ∧ KeyN K H k a ∧ xs.length < sizeLine ∧ ∀ o', Q (upd H D (dN P w D (stN xs k a z) o'))
theorem put_N {X : Cx} (hu : X.A.units + 64 < cLine) : PPut X (rPutN X.prog X.w X.K) := by
  intro pins s σ H D y z u v Q I ry rz ⟨xs, k, a, h1, ⟨⟨o, h3⟩, h4⟩, h5, hl, q⟩
  subst h1
  cases ry
  obtain ⟨hz, hd, ys, e, E⟩ := dn_full I h3 h4
  have rm : (nestedKind X.prog X.w).room X.A := by show X.A.units + 8 < cLine; omega
  exact wpAny_dictSet_heap rm (h5.is I) E (fun h' E' hs => let ⟨o', I'⟩ := dn_put I h3 hd e rz hl E' hs; ⟨_, I', q o'⟩) (hsz := by rw [← Paired.length e]; exact hz)
theorem new_N {X : Cx} : PNew X (fun D => dN X.prog X.w D [] oN) := fun H h hb => dn_empty h hb
section
variable {α β γ : Type} [DecidableEq α]
def dcM (mt : γ → R ε Bool) (fk : γ → R ε α) (fv : γ → R ε β) : List γ → List (α × β) → R ε (List (α × β))
  | [], d => .ok d
  | x :: l, d => (mt x).bind fun c => if c then (fk x).bind fun a => (fv x).bind fun b => dcM mt fk fv l (dput d a b) else dcM mt fk fv l d
def dcR (mt : γ → R ε Bool) (fk : γ → R ε α) (fv : γ → R ε β) (l : List γ) : R ε (List (α × β)) := if l.length ≤ sizeLine then (dcM mt fk fv l []).noX else .bad
theorem dput_len (d : List (α × β)) (a : α) (b : β) : (dput d a b).length ≤ d.length + 1 := by
  unfold dput
  split
  · rw [List.length_map]; exact Nat.le_succ _
  · rw [List.length_append]; exact Nat.le_refl _
theorem R.bind_inv {δ ζ : Type} {m : R ε δ} {f : δ → R ε ζ} {r : ζ} (h : m.bind f = .ok r) : ∃ a, m = .ok a ∧ f a = .ok r := by
  cases m with
  | ok a => exact ⟨a, rfl, h⟩
  | exn e => cases h
  | bad => cases h
end
section
variable {α β γ : Type} [DecidableEq α] [Inhabited γ] {X : Cx} {J : Jc X.K ε} {ρ : Ev X.K} {kx vx tg iter : Expr} {ifs : List Expr} {pos : Pos} {S0 : Ty X.K γ} {T : Ty X.K α} {k : Ky X.K T} {U : Ty X.K β} {ml : R ε (List γ)} {wi : TI} {g : TG} {tt : TT} {tk tv : TE} {scope : Scope} {own : List (Str × Nat)} {ρ' : γ → Ev X.K} {mt : γ → R ε Bool} {fk : γ → R ε α} {fv : γ → R ε β} {ix : List Nat}
theorem dc_ev (ar : AtRef T) (hd8 : k.d ≤ 8) (hi : EvalIc J wi ρ S0 ml) (hg : ∀ (b : B) (F : Hp) (σ : St) (H : Hp) (v : V) (a : γ) (Q : St → Hp → Prop), Sta b (wipeE ρ (own.map (·.2))) F σ H → S0.rel a F v → (∀ σ', σ'.length = σ.length → (∀ j, j ∉ ix → σ'[j]? = σ[j]?) → Sta b (ρ' a) F σ' H → Q σ' H) → g v σ H Q)
    (hix : ∀ j ∈ ix, j ∈ own.map (·.2)) (ht : ∀ a, EvalT J.no tt (ρ' a) (mt a)) (hk : ∀ a, Eval J.no tk (ρ' a) (rP T) (fk a)) (hv : ∀ a, Eval J.no tv (ρ' a) (rP U) (fv a)) :
    Eval J (tDcG (fun D => dN X.prog X.w D [] oN) (rPutN X.prog X.w X.K) wi g tt tk tv (own.map (·.2))) ρ (rF (cDic X.prog X.w k U)) (ml.bind fun l => dcR mt fk fv l) := fun b F σ H Q S q => by
  refine hi b F σ H _ S ?_
  cases ml with
  | exn e => exact q
  | bad => exact q
  | ok l =>
    intro F1 H1 It1 g1 S1 wk D hD
    have q : PostE J b ρ (rF (cDic X.prog X.w k U)) F σ H Q (dcR mt fk fv l) := q
    unfold dcR at q
    by_cases hz : l.length ≤ sizeLine
    case neg => rw [if_neg hz] at q; exact q.elim
    rw [if_pos hz] at q
    cases hr : dcM mt fk fv l [] with
    | exn e => rw [hr] at q; exact q.elim
    | bad => rw [hr] at q; exact q.elim
    | ok r =>
      rw [hr] at q
      have fD : F1 D = none := S1.fh.free hD
      have bD : b.H0 D = none := S1.h0.free hD
      have unD : ∀ (j : Nat) (s : Slt X.K), ρ[j]? = some (some s) → s.isOw = true → σ[j]? = some (some (.ref D)) → False := S1.fresh_un hD
      refine ⟨fun i m H2 => m = l.length - i ∧ i ≤ l.length ∧ ∃ (F2 : Hp) (xs : List En) (done : List (α × β)), Same F1 F2 ∧ Sta b ρ F2 σ H2 ∧ (∀ p, (∃ o, H1 p = some o) → F1 p = none → F2 p = none) ∧ Same H1 H2 ∧ F2 D = none ∧ (∃ o, H2 D = some (dN X.prog X.w D xs o)) ∧ Paired (ER k U F2) xs done ∧ dcM mt fk fv (l.drop i) done = .ok r ∧ done.length ≤ i, ⟨l.length, by simp, Nat.zero_le _, F1, [], [], Same.refl _, S1.newH hD, fun _ _ z => z, same_upd hD, fD, ⟨_, upd_same⟩, .nil, hr, Nat.le_refl _⟩, ?_⟩
      rintro i m H2 ⟨rfl, hil, F2, xs, done, sf, S2, nF, sh, f2D, ⟨ob, h2D⟩, rd, hrest, hacc⟩
      obtain ⟨wgo, wst⟩ := wk i F2 H2 sf sh S2.fh
      by_cases hlt : i < l.length
      · obtain ⟨go, yld⟩ := wgo hlt
        rw [List.drop_eq_getElem_cons hlt] at hrest
        unfold dcM at hrest
        obtain ⟨c, hc, hcc⟩ := R.bind_inv hrest
        refine .inr ⟨go, fun H3 => ∃ (F3 : Hp) (xs : List En) (done : List (α × β)), Same F1 F3 ∧ Sta b ρ F3 σ H3 ∧ (∀ p, (∃ o, H1 p = some o) → F1 p = none → F3 p = none) ∧ Same H1 H3 ∧ F3 D = none ∧ (∃ o, H3 D = some (dN X.prog X.w D xs o)) ∧ Paired (ER k U F3) xs done ∧ dcM mt fk fv (l.drop (i + 1)) done = .ok r ∧ done.length ≤ i + 1, fun H3 h3 => ⟨l.length - (i + 1), by omega, rfl, hlt, h3⟩, fun x H' y => ?_⟩
        obtain ⟨F3, g3, fh3, r3⟩ := yld x H' y
        have S3 := g3.sta S2 fh3
        have grow : ∀ {F4 F5 : Hp} {xs : List En} {d : List (α × β)}, Same F4 F5 → Paired (ER k U F4) xs d → Paired (ER k U F5) xs d := fun e h => Paired.mapP h fun x a q => ⟨q.1, T.mono e q.2.1, U.mono e q.2.2⟩
        refine hg b F3 _ H' x _ _ (S3.wipe _) r3 fun σ4 hl4 hj4 S4 => ⟨wipe_eq _ (hl4.trans (wipe_length _ _)) fun j hj => hj4 j fun z => hj (hix j z), ht _ b F3 σ4 H' _ S4 ?_⟩
        rw [hc]
        intro F5 H5 g5 S5
        have g25 := g3.trans g5
        have S25 := g25.sta S2 S5.fh
        cases c with
        | false =>
          rw [if_neg Bool.false_ne_true] at hcc ⊢
          exact ⟨F5, xs, done, sf.trans g25.f, S25, fun p hp z => g25.n p (by obtain ⟨o, e⟩ := hp; exact ⟨o, sh _ _ e⟩) (nF p hp z), sh.trans g25.h, g25.n D ⟨_, h2D⟩ f2D, ⟨ob, g25.h _ _ h2D⟩, grow g25.f rd, hcc, Nat.le_succ_of_le hacc⟩
        | true =>
          rw [if_pos rfl] at hcc ⊢
          obtain ⟨ka, hka, hcc⟩ := R.bind_inv hcc
          obtain ⟨va, hva, hcc⟩ := R.bind_inv hcc
          refine hk _ b F5 σ4 H5 _ S5 ?_
          rw [hka]
          intro F6 y H6 g6 S6 r6
          refine hv _ b F6 σ4 H6 _ S6 ?_
          rw [hva]
          intro F7 z H7 g7 S7 r7
          have g27 := (g25.trans g6).trans g7
          have S27 := g27.sta S2 S7.fh
          have f7D := g27.n D ⟨_, h2D⟩ f2D
          have r6 : T.rel ka F7 y := T.mono g7.f r6
          have rd7 := grow g27.f rd
          obtain ⟨kq, h3, h4⟩ := key_at (k := k) ar hd8 S7.fh r6
          subst h3
          refine ⟨xs, k.key ka, kq, rfl, ⟨⟨ob, g27.h _ _ h2D⟩, er_keys rd7 hd8 S7.fh⟩, h4, by rw [Paired.length rd]; omega, fun o' => ⟨F7, _, dput done ka va, sf.trans g27.f, S27.chg (o := dN X.prog X.w D xs ob) f7D bD unD, fun p hp z => g27.n p (by obtain ⟨o, e⟩ := hp; exact ⟨o, sh _ _ e⟩) (nF p hp z), fun p o e => by rw [upd_ne (ne_of_none e hD)]; exact g27.h _ _ (sh _ _ e), f7D, ⟨o', upd_same⟩, er_put rd7 r6 r7, hcc, Nat.le_trans (dput_len _ _ _) (Nat.succ_le_succ hacc)⟩⟩
      · have e : i = l.length := by omega
        subst e
        rw [List.drop_length] at hrest
        cases hrest
        refine .inl ⟨wst (Nat.le_refl _), ?_⟩
        exact q F2 _ H2 ⟨g1.f.trans sf, g1.h.trans sh, fun p hp z => nF p (by obtain ⟨o, e⟩ := hp; exact ⟨o, g1.h _ _ e⟩) (g1.n p hp z)⟩ S2 ⟨D, _, rfl, g1.h.free hD, h2D, f2D, xs, _, rfl, rd⟩
theorem de_dcN (hc : X.calm = true) (hN : X.N.Nodup) (hi : DIc X J ρ tg iter wi S0 ml) (ok : BlkOk X.N X.env.scope scope own) (ar : AtRef T) (hu : X.A.units + 64 < cLine)
    (hg : ∀ (s : Shared) (H : Hp) (C : Addr) (cl : List (Str × Addr)) (fp : List Addr), DG (Blk X scope s H C cl fp) (wipeE ρ (own.map (·.2))) tg g S0 ρ' ix) (hix : ∀ j ∈ ix, j ∈ own.map (·.2))
    (ht : ∀ (s : Shared) (H : Hp) (C : Addr) (cl : List (Str × Addr)) (fp : List Addr) (a : γ), DTs (Blk X scope s H C cl fp) J.no (ρ' a) ifs tt (mt a))
    (hk : ∀ (s : Shared) (H : Hp) (C : Addr) (cl : List (Str × Addr)) (fp : List Addr) (a : γ), DE (Blk X scope s H C cl fp) J.no (ρ' a) kx tk (rP T) (fk a))
    (hv : ∀ (s : Shared) (H : Hp) (C : Addr) (cl : List (Str × Addr)) (fp : List Addr) (a : γ), DE (Blk X scope s H C cl fp) J.no (ρ' a) vx tv (rP U) (fv a)) (hd8 : k.d ≤ 8 := by exact lo rfl) :
    DE X J ρ (.DictComp kx vx [⟨tg, iter, ifs, 0⟩] scope pos) (tDcG (fun D => dN X.prog X.w D [] oN) (rPutN X.prog X.w X.K) wi g tt tk tv (own.map (·.2))) (rF (cDic X.prog X.w k U)) (ml.bind fun l => dcR mt fk fv l) :=
  ⟨pe_dcG hc hN hi.pi ok new_N (fun s H C cl fp => put_N hu) (fun s H C cl fp => (hg s H C cl fp).pg) (fun s H C cl fp => (ht s H C cl fp default).pts) (fun s H C cl fp => (hk s H C cl fp default).pe) (fun s H C cl fp => (hv s H C cl fp default).pe) hi.fs,
    dc_ev ar hd8 hi.ev (hg {} (fun _ => none) 0 [] []).ev hix (fun a => (ht {} (fun _ => none) 0 [] [] a).ev) (fun a => (hk {} (fun _ => none) 0 [] [] a).ev) fun a => (hv {} (fun _ => none) 0 [] [] a).ev⟩
theorem ds_setDcN {i : Nat} {y : Str} {py spos : Pos} (hc : X.calm = true) (hN : X.N.Nodup) (hy : X.N[i]? = some y) (hyl : X.env.scope.names.lookup y = some .local)
    (hsw : swapsWith (.DictComp kx vx [⟨tg, iter, ifs, 0⟩] scope pos) (some (.Name y py)) spos.line X.env = pure true) (hi : DIc X J ρ tg iter wi S0 ml) (ok : BlkOk X.N X.env.scope scope own) (ar : AtRef T) (hu : X.A.units + 64 < cLine)
    (hg : ∀ (s : Shared) (H : Hp) (C : Addr) (cl : List (Str × Addr)) (fp : List Addr), DG (Blk X scope s H C cl fp) (wipeE ρ (own.map (·.2))) tg g S0 ρ' ix) (hix : ∀ j ∈ ix, j ∈ own.map (·.2))
    (ht : ∀ (s : Shared) (H : Hp) (C : Addr) (cl : List (Str × Addr)) (fp : List Addr) (a : γ), DTs (Blk X scope s H C cl fp) J.no (ρ' a) ifs tt (mt a))
    (hk : ∀ (s : Shared) (H : Hp) (C : Addr) (cl : List (Str × Addr)) (fp : List Addr) (a : γ), DE (Blk X scope s H C cl fp) J.no (ρ' a) kx tk (rP T) (fk a))
    (hv : ∀ (s : Shared) (H : Hp) (C : Addr) (cl : List (Str × Addr)) (fp : List Addr) (a : γ), DE (Blk X scope s H C cl fp) J.no (ρ' a) vx tv (rP U) (fv a)) (hd8 : k.d ≤ 8 := by exact lo rfl) :
    DS1 X J ρ (.Assign [.Name y py] (.DictComp kx vx [⟨tg, iter, ifs, 0⟩] scope pos) spos) (tAsg (tDcG (fun D => dN X.prog X.w D [] oN) (rPutN X.prog X.w X.K) wi g tt tk tv (own.map (·.2))) (gName i)) (fun a => .nx (ρ.set i (some (.ow (cDic X.prog X.w k U) a)))) (ml.bind fun l => dcR mt fk fv l) :=
  ⟨ps_setDcG hc hN hy hyl hsw hi.pi ok new_N (fun s H C cl fp => put_N hu) (fun s H C cl fp => (hg s H C cl fp).pg) (fun s H C cl fp => (ht s H C cl fp default).pts) (fun s H C cl fp => (hk s H C cl fp default).pe) (fun s H C cl fp => (hv s H C cl fp default).pe) hi.fs, fun b F σ H D S q => by
    rw [← bindok (ml.bind fun l => dcR mt fk fv l)] at q
    exact (dc_ev ar hd8 hi.ev (hg {} (fun _ => none) 0 [] []).ev hix (fun a => (ht {} (fun _ => none) 0 [] [] a).ev) (fun a => (hk {} (fun _ => none) 0 [] [] a).ev) fun a => (hv {} (fun _ => none) 0 [] [] a).ev).thenS S q fun a F' v H' g S' r q' => by
      obtain ⟨p, o, rfl, n, hp, fp, r⟩ := r
      exact q' F' _ H' (Same.refl _) (S'.setO hp fp (S.h0.free n) r (S.fresh_un n))⟩
end
end Cp

/-! The data layer: enumerate over a tuple. -/
namespace CpL
open PySem PySem.Spec PyProof.Rows
theorem meets_enum1 {v : Value} {o : Obj} {G : Heap → Prop} (B : Begins v o G) : Meets (Builtin.«enumerate.__new__» ⟨[.type "enumerate", v], []⟩) (fun _ R s => G s.heap ∧
    R (.ok (.ret (.ref (s.heap.push o).objs.size))) { s with heap := (s.heap.push o).push { cls := .type "enumerate", data := .fields #[.none, .bool false, .ref s.heap.objs.size, rawInt 0, .none, .none] } }) :=
  .of_wp fun prog w A R s h => by
    obtain ⟨hp, gn, dr, tk, os⟩ := s
    obtain ⟨h1, h⟩ := h
    have hsub := sub_enumerate
    have it1 : ∀ {A' : Around} {E : Value → Shared → Prop} {Q : Value → Shared → Prop}, Q (.ref hp.objs.size) ⟨hp.push o, gn, dr, tk, os⟩ → wpAny (model prog w) A' (pyIter v) Q E ⟨hp, gn, dr, tk, os⟩ := fun q => B.iter prog w _ _ ⟨hp, gn, dr, tk, os⟩ _ h1 q
    wp_walk using it1
    refine wpAny_stack_any fun st => wpAny_pure ?_
    split
    · rename_i c _ _ _ _ _
      cases (c == Value.type "enumerate") <;> (wp_walk using it1; exact ⟨_, rfl, h⟩)
    · wp_walk using it1
      exact ⟨_, rfl, h⟩
section
variable {prog : Program} {w : World} {A : Around} {E : Value → Shared → Prop} {s : Shared}
theorem call_enum1 {v : Value} {o : Obj} {G : Heap → Prop} {Q : Value → Shared → Prop} (B : Begins v o G) (h1 : G s.heap)
    (h : ∀ h', IsEnum h' (s.heap.objs.size + 1) s.heap.objs.size 0 .none → h'.get? s.heap.objs.size = some o → (∀ b u, s.heap.get? b = some u → h'.get? b = some u) → Q (.ref (s.heap.objs.size + 1)) { s with heap := h' }) :
    wpAny (model prog w) A (call (.type "enumerate") [v]) Q E s := by
  refine callType_new F.called_enumerate (by decide) (F.typeCall_enumerate_1 _) (F.newCall_enumerate_1 _) (fun obj => F.args_object_init_2 obj _) F.entry_enumerate_new (meets_enum1 B) ⟨h1, ?_⟩
  have hz : (s.heap.push o).objs.size = s.heap.objs.size + 1 := Heap.size_push ..
  have he := Heap.get?_push_size (s.heap.push o) (o := { cls := .type "enumerate", data := .fields #[.none, .bool false, .ref s.heap.objs.size, rawInt 0, .none, .none] }) rfl
  show _ ∧ _
  rw [hz] at he ⊢
  exact ⟨⟨_, he, rfl⟩, h _ he (Heap.get?_push_of_some _ (Heap.get?_push_size _ B.free)) fun b u x => Heap.get?_push_of_some _ (Heap.get?_push_of_some _ x)⟩
end
end CpL
namespace Cp
open PySem PySem.Spec L2
open PyProof.Rows hiding St
variable {K : PySem.W.Frag} {ε : Type}
/-- a tuple's items, each in a new pair -/
def IteT (K : PySem.W.Frag) (a : Addr) : It :=
  ⟨fun i H => ∃ xs x, SqT K H a xs ∧ xs[i]? = some x, fun i H v G => ∃ T x, v = .ref T ∧ H T = none ∧ G = upd H T (.tup [.int (i : Nat), x]) ∧ ∀ xs, SqT K H a xs → xs[i]? = some x, fun i H => ∃ xs, SqT K H a xs ∧ xs.length ≤ i⟩
theorem turn_enumT {P : Program} {w : World} {elts : List Expr} {kk : Nat} {tpos : Pos} (a e it : Addr) :
    Turn P w K (.Tuple elts kk tpos) (IteT K a) [e, it] e (fun i h => (∃ old, IsEnum h e it ((i : Nat) : Int) old) ∧ h.IsTupleIter it a i ∧ e ≠ it) where
  mem := List.mem_cons_self
  obj := fun i h ⟨⟨old, he⟩, ⟨o, ho, _, hd⟩, _⟩ b hb => by
    rcases List.mem_cons.mp hb with z | hb
    · rw [z]; exact ⟨_, he, fun v q => nomatch q⟩
    · rw [List.mem_singleton.mp hb]; exact ⟨o, ho, fun v q => by rw [hd] at q; cases q⟩
  keep := fun i h h' ⟨⟨old, he⟩, hi, hne⟩ k => ⟨⟨old, k e (by simp) _ he⟩, hi.at fun o q => k it (by simp) o q, hne⟩
  item := by
    intro X hP hw hK hc i pins s σ H E I hf ⟨⟨old, he⟩, hit, hne⟩ ⟨xs, x, hq, hx⟩
    subst hP hw hK
    obtain ⟨its, rv, p, hz⟩ := I.tuple hq
    obtain ⟨u, hu, ru⟩ := rv.get hx
    have hi : i < its.length := (List.getElem?_eq_some_iff.mp hu).1
    have hel : e < s.heap.objs.size := Heap.lt_size he
    have hil : it < s.heap.objs.size := let ⟨_, q, _⟩ := hit; Heap.lt_size q
    have ait : a ≠ it := fun z => by
      obtain ⟨o1, q1, q2, _⟩ := hit
      obtain ⟨o2, q3, q4, _⟩ := p
      rw [z, q1] at q3; cases q3
      rw [q2] at q4; exact absurd q4 (by decide)
    have ea : e ≠ a := fun z => by
      obtain ⟨o2, q3, q4, _⟩ := p
      have he' : s.heap.get? e = some _ := he
      rw [z, q3] at he'; cases he'
      have q5 : Value.type "enumerate" = Value.type "tuple" := q4
      exact absurd q5 (by decide)
    refine wpAny_pyNext_enum_itemD (Draws.tuple (A := X.A.in1) (show X.A.in1.handled = none from I.ok.hd hc) it a ait its.toArray) he ⟨hit, p⟩ (by simpa using hi) hne (by simp [hne, ea]) fun y h' tk hy ho ⟨hit', _⟩ hT hsz hk => ?_
    have hy : y = u := by
      have : its[i]? = some y := by simpa using hy
      rw [hu] at this; exact (Option.some.inj this).symm
    subst hy
    refine ⟨_, rfl, wpAny_letOwnedTupleGo_enum (s := { s with heap := h', toks := tk + 1 }) ho fun g he' sb => ?_⟩
    have hT2 : g.get? s.heap.objs.size = some { cls := .type "tuple", data := .seq #[.int i tk, y] } := (sb.2 _ (Nat.ne_of_gt hel)).trans hT
    have new : ObjOk X.prog X.w (upd H s.heap.objs.size (.tup [.int (i : Nat), x])) g s.heap.objs.size (.tup [.int (i : Nat), x]) :=
      ⟨by show 2 ≤ sizeLine; decide, [.int i tk, y], .cons ⟨_, rfl⟩ (.cons ru .nil), ⟨_, hT2, rfl, _, rfl⟩⟩
    have I1 := I.turnedNew (t' := tk + 1) (ch := [e, it]) (fun b ob hb q => (sb.2 b (fun z => hb (by simp [z]))).trans (hk b ob (fun z => hb (by simp [z])) (fun z => hb (by simp [z])) q)) hf (Nat.le_refl _) new
    refine ⟨.ref s.heap.objs.size, _, I1, rfl, ⟨_, x, rfl, I.hok.fresh (Nat.le_refl _), rfl, fun ys hy => by rw [I.tuple_inj hy hq]; exact hx⟩, ⟨⟨y, by rw [show ((i + 1 : Nat) : Int) = (i : Int) + 1 by omega]; exact he'⟩, hit'.at fun o q => (sb.2 it (Ne.symm hne)).trans q, hne⟩, fun b hb => ?_⟩
    have small : b < s.heap.objs.size := by
      rcases List.mem_cons.mp hb with z | z
      · rw [z]; exact hel
      · rw [List.mem_singleton.mp z]; exact hil
    rw [upd_ne (Nat.ne_of_lt small)]
    exact (hf b hb).1
  done := by
    intro X hP hw hK hc i pins s σ H E I hf ⟨⟨old, he⟩, hit, hne⟩ ⟨xs, hq, hx⟩
    subst hP hw hK
    obtain ⟨its, rv, p, hz⟩ := I.tuple hq
    obtain ⟨f0, f1, f2, f3, f4, f5⟩ := hf it (by simp)
    have hl := rv.length
    unfold pyNext
    refine wpAny_bind (wpAny_attempt (wpAny_callSpecial?_slot (name := Str.ofString "__next__") (T := "enumerate") ⟨_, he, rfl⟩ F.slot_enumerate_next (wpAny_call_entry F.slot_enumerate_next (T := "enumerate") ⟨_, he, rfl⟩ F.entry_enumerate_next ?_ (F.args_enumerate_next_1 _))))
    show wpAny (model X.prog X.w) _ (do let x ← field (.ref e) 2; _) _ _ s
    refine wpAny_bind (wpAny_field he rfl (x := .ref it) rfl (wpAny_bind (wpAny_nextOf_tuple_end (show X.A.in1.handled = none from I.ok.hd hc) hit p (by simp; omega) fun h' x he' ⟨o, ho, hcl⟩ => ?_)))
    exact wpAny_bind (wpAny_isInstance (T := "StopIteration") (b := true) ⟨o, ho, hcl⟩ isSubtype_stop (wpAny_pure ⟨rfl, I.turned (t' := s.toks) (fun b u hb q => he' b u hb q) f0 f1 f3 f4 f5⟩))
  self := fun A i s Q E ⟨⟨_, he⟩, _⟩ h => wpAny_pyIter_enum he h
def iEnumT (K : PySem.W.Frag) (ta : TA) : TI := fun σ H R => ta σ H fun vs G => ∃ a xs, vs = [.ref a] ∧ SqT K G a xs ∧ R (IteT K a) G
theorem pi_enumT {X : Cx} {e : Expr} {ta : TA} {p pos tpos : Pos} {elts : List Expr} {kk : Nat} (hg : Gl X "enumerate") (hm : X.mg "enumerate" = none) (ha : PA X [e] ta) (hs : starEach [e] X.env = [(false, eval e X.env)]) : PI X (.Tuple elts kk tpos) (.Call (.Name "enumerate" p) [e] [] pos) (iEnumT X.K ta) := by
  refine ⟨fun pins s σ H R I h => Call_ (ld_blt I hg hm boot_enumerate (PyProof.Rows.callWith_type1 (thn (ha.run pos pins s σ H _ I h) fun us s1 ⟨vs, G, J, r1, a, xs, ex, hq, q⟩ => ?_) hs rfl))⟩
  subst ex
  obtain ⟨u, rfl, r⟩ := vals1 r1
  cases r
  obtain ⟨its, rv, p', hz⟩ := J.tuple hq
  refine CpL.call_enum1 (begins_tuple a its.toArray) p' fun h' he hit hk => wpAny_pyIter_enum he ?_
  have J2 : Inv X pins σ G { s1 with heap := h' } := J.kept (t' := s1.toks) hk
  refine ⟨_, [s1.heap.objs.size + 1, s1.heap.objs.size], _, _, G, rfl, J2, turn_enumT a (s1.heap.objs.size + 1) s1.heap.objs.size, ⟨⟨.none, he⟩, ⟨_, hit, rfl, rfl⟩, Nat.succ_ne_self _⟩, fun b hb => ?_, q⟩
  have hle : s1.heap.objs.size ≤ b := by
    rcases List.mem_cons.mp hb with z | z
    · rw [z]; exact Nat.le_add_right _ _
    · rw [List.mem_singleton.mp z]; exact Nat.le_refl _
  exact J.fpOk hle (J.hok.fresh hle)
section
variable {α : Type} {X : Cx} {J : Jc X.K ε} {ρ : Ev X.K} {e : Expr} {t : TE} {pos p : Pos} {T : Ty X.K α} {ml : R ε (List α)}
theorem walks_enumT {q : Addr} {l : List α} {F0 : Hp} {xs : List V} (h : SqT X.K F0 q xs) (r : T.all l F0 xs) : Walks (IteT X.K q) (yEnum T) (enumI l) F0 := fun i F H h1 h2 => by
  have hl := Paired.length r
  have sq : SqT X.K H q xs := Same.sqt (h1.trans h2) h
  refine ⟨fun hi => ?_, fun hi => ⟨xs, sq, by rw [enumI_len] at hi; omega⟩⟩
  rw [enumI_len] at hi
  obtain ⟨v, e1, e2⟩ := all_get r (List.getElem?_eq_getElem hi)
  refine ⟨⟨xs, v, sq, e1⟩, fun x G ⟨T', y, h3, h4, h5, h6⟩ => ?_⟩
  subst h3 h5
  have z := h6 xs sq
  rw [e1] at z; cases z
  have e3 := enumI_get l i hi
  rw [List.getElem?_eq_getElem (by rw [enumI_len]; exact hi)] at e3
  exact ⟨_, Gr.new h2 h4, same_upd2 h2 h4, by rw [Option.some.inj e3]; exact ⟨T', _, rfl, .of upd_same, _, _, rfl, rfl, v, rfl, T.mono (h1.trans (same_upd (h2.free h4))) e2⟩⟩
theorem di_enumT {elts : List Expr} {kk : Nat} {tpos : Pos} (hg : Gl X "enumerate") (hm : X.mg "enumerate" = none) (ha : DE X J ρ e t (rP (yTupOf T)) ml) (hs : starEach [e] X.env = (false, eval e X.env) :: starEach [] X.env := by rfl) (fs : ∀ x, foldedSetIterable (.Call (.Name "enumerate" p) [e] [] pos) X.env x = pure x := by intro _; rfl) :
    DI X J ρ (.Tuple elts kk tpos) (.Call (.Name "enumerate" p) [e] [] pos) (iEnumT X.K (tCons t tNil)) (yEnum T) (ml.bind fun l => .ok (enumI l)) :=
  ⟨pi_enumT hg hm (pa_cons ha.pe pa_nil hs) hs, fun b F σ H Q S q => ha.ev.thenI S q fun a F' v H' g S' r q' => by
    obtain ⟨p, xs, h1, h2, h3⟩ := r
    exact ⟨p, xs, by rw [h1], Same.sqt S'.fh h2, PostI.here q' S' (walks_enumT h2 h3)⟩, fs⟩
end
end Cp

/-! Mathematics of mirrors: dicts, ranges cut at their head. -/
namespace Cp
open PySem PySem.Spec
section
variable {ε α β γ s θ : Type}
theorem rng_cons {lo hi : Int} (h : lo < hi) : rng lo hi = lo :: rng (lo + 1) hi := by
  unfold rng
  rw [show (hi - lo).toNat = (hi - (lo + 1)).toNat + 1 by omega, List.range_succ_eq_map, List.map_cons, List.map_map]
  congr 1
  · simp
  · apply List.map_congr_left
    intro i _
    simp only [Function.comp]
    omega
theorem rng_nil {lo hi : Int} (h : hi ≤ lo) : rng lo hi = [] := by
  unfold rng
  rw [show (hi - lo).toNat = 0 by omega]
  rfl
theorem enumI_rng (d : α) (p : List α) : enumI p = (rng 0 p.length).map fun k => (k, p.getD k.toNat d) := by
  apply List.ext_getElem?
  intro i
  by_cases hi : i < p.length
  · rw [enumI_get p i hi, List.getElem?_map]
    unfold rng
    rw [List.getElem?_map, List.getElem?_range (by omega)]
    have e : ((0 : Int) + (i : Nat)).toNat = i := by omega
    simp only [Option.map_some, e]
    rw [List.getD_eq_getElem?_getD, List.getElem?_eq_getElem hi]
    simp
  · rw [List.getElem?_eq_none (by rw [enumI_len]; omega), List.getElem?_eq_none (by rw [List.length_map, rng_len]; omega)]
theorem forX_map {f : β → s → R ε (s ⊕ θ)} {g : α → β} : ∀ (l : List α) (a : s), forX f (l.map g) a = forX (fun x => f (g x)) l a
  | [], a => rfl
  | x :: l, a => by
    rw [List.map_cons]
    unfold forX
    congr 1
    funext r
    cases r with
    | inl a => exact forX_map l a
    | inr c => rfl
section
variable [DecidableEq α]
theorem dhas_put (d : List (α × β)) (a : α) (b : β) (c : α) : dhas (dput d a b) c = (decide (a = c) || dhas d c) := by
  unfold dput
  by_cases h : dhas d a = true
  · rw [if_pos h]
    unfold dhas at h ⊢
    rw [List.any_map]
    rw [Bool.eq_iff_iff]
    simp only [List.any_eq_true, Function.comp, Bool.or_eq_true, decide_eq_true_eq] at h ⊢
    constructor
    · rintro ⟨x, hx, e⟩
      by_cases z : x.1 = a
      · rw [if_pos z] at e
        exact .inl (z.symm.trans e)
      · rw [if_neg z] at e
        exact .inr ⟨x, hx, e⟩
    · rintro (e | ⟨x, hx, e⟩)
      · obtain ⟨x, hx, e2⟩ := h
        exact ⟨x, hx, by rw [if_pos e2]; exact e2.trans e⟩
      · refine ⟨x, hx, ?_⟩
        split <;> exact e
  · rw [if_neg h]
    unfold dhas
    rw [List.any_append]
    simp [Bool.or_comm]
theorem dhas_fold (ka : γ → α) (vb : γ → β) (c : α) : ∀ (l : List γ) (d : List (α × β)), dhas (l.foldl (fun d x => dput d (ka x) (vb x)) d) c = (dhas d c || l.any fun x => decide (ka x = c))
  | [], d => by simp
  | x :: l, d => by
    rw [List.foldl_cons, dhas_fold ka vb c l, dhas_put, List.any_cons]
    cases dhas d c <;> cases decide (ka x = c) <;> simp
theorem dcM_pure {mt : γ → R ε Bool} {fk : γ → R ε α} {fv : γ → R ε β} (p : γ → Bool) (ka : γ → α) (vb : γ → β) : ∀ {l : List γ} {d : List (α × β)}, (∀ x ∈ l, mt x = .ok (p x)) → (∀ x ∈ l, p x = true → fk x = .ok (ka x)) → (∀ x ∈ l, p x = true → fv x = .ok (vb x)) →
    dcM mt fk fv l d = .ok ((l.filter p).foldl (fun d x => dput d (ka x) (vb x)) d)
  | [], d, _, _, _ => rfl
  | x :: l, d, h1, h2, h3 => by
    unfold dcM
    rw [h1 x List.mem_cons_self, R.bind_ok]
    have t1 := fun y hy => h1 y (List.mem_cons_of_mem x hy)
    have t2 := fun y hy => h2 y (List.mem_cons_of_mem x hy)
    have t3 := fun y hy => h3 y (List.mem_cons_of_mem x hy)
    cases e : p x with
    | true => rw [if_pos rfl, h2 x List.mem_cons_self e, R.bind_ok, h3 x List.mem_cons_self e, R.bind_ok, dcM_pure p ka vb t1 t2 t3, List.filter_cons_of_pos e]; rfl
    | false => rw [if_neg Bool.false_ne_true, dcM_pure p ka vb t1 t2 t3, List.filter_cons_of_neg (by rw [e]; exact Bool.false_ne_true)]
theorem dcR_ok {mt : γ → R ε Bool} {fk : γ → R ε α} {fv : γ → R ε β} (p : γ → Bool) (ka : γ → α) (vb : γ → β) {l : List γ} (hl : l.length ≤ 16777216) (h1 : ∀ x ∈ l, mt x = .ok (p x)) (h2 : ∀ x ∈ l, p x = true → fk x = .ok (ka x)) (h3 : ∀ x ∈ l, p x = true → fv x = .ok (vb x)) :
    dcR mt fk fv l = .ok ((l.filter p).foldl (fun d x => dput d (ka x) (vb x)) []) := by
  unfold dcR
  rw [if_pos (by rw [sizeLine_eq]; exact hl), dcM_pure p ka vb h1 h2 h3]
  rfl
theorem any_memB (c : α) (l : List α) : (l.any fun x => decide (x = c)) = memB c l := by
  unfold memB
  rw [Bool.eq_iff_iff]
  simp
end
end
end Cp

/-! The data layer: list comprehensions of two walks. -/
namespace Cp
open PySem PySem.Spec L2
open PyProof.Rows hiding St
variable {K : PySem.W.Frag} {ε : Type}
section
variable {α β γ : Type}
def lc2M (mt : α → R ε Bool) (ml1 : α → R ε (List β)) (mt1 : α → β → R ε Bool) (f : α → β → R ε γ) : List α → R ε (List γ)
  | [] => .ok []
  | x :: l => (mt x).bind fun c => if c then (ml1 x).bind fun l1 => (lcM (mt1 x) (f x) l1).bind fun r1 => (lc2M mt ml1 mt1 f l).bind fun r => .ok (r1 ++ r) else lc2M mt ml1 mt1 f l
def lc2R (mt : α → R ε Bool) (ml1 : α → R ε (List β)) (mt1 : α → β → R ε Bool) (f : α → β → R ε γ) (l : List α) : R ε (List γ) := match lc2M mt ml1 mt1 f l with
  | .ok r => if r.length ≤ sizeLine then .ok r else .bad
  | _ => .bad
end
theorem wipeE_get {ρ : Ev K} {s : Slt K} {j : Nat} : ∀ {vs : List Nat}, (wipeE ρ vs)[j]? = some (some s) → j ∉ vs ∧ ρ[j]? = some (some s)
  | [], e => ⟨List.not_mem_nil, e⟩
  | v :: vs, e => by
    unfold wipeE at e
    rcases getset e with ⟨_, q⟩ | ⟨n, q⟩
    · cases q
    · obtain ⟨h1, h2⟩ := wipeE_get q
      exact ⟨fun h => (List.mem_cons.mp h).elim n h1, h2⟩
/-- a display under way: what is done stands at D -/
structure Un (b : B) (ρ : Ev K) (σ : St) (F1 H1 : Hp) (D : Addr) {γ : Type} (U : Ty K γ) (F H : Hp) (done : List γ) : Prop where
  sf : Same F1 F
  S : Sta b ρ F σ H
  nF : ∀ p, (∃ o, H1 p = some o) → F1 p = none → F p = none
  sh : Same H1 H
  fD : F D = none
  at_ : ∃ acc, H D = some (.lst acc) ∧ U.all done F acc
section
variable {b : B} {ρ : Ev K} {σ : St} {F1 H1 F H F' H' : Hp} {D : Addr} {γ : Type} {U : Ty K γ} {done : List γ}
theorem Un.grow (u : Un b ρ σ F1 H1 D U F H done) (g : Gr F H F' H') (fh : Same F' H') : Un b ρ σ F1 H1 D U F' H' done := by
  obtain ⟨acc, h1, h2⟩ := u.at_
  exact ⟨u.sf.trans g.f, g.sta u.S fh, fun p hp z => g.n p (by obtain ⟨o, e⟩ := hp; exact ⟨o, u.sh _ _ e⟩) (u.nF p hp z), u.sh.trans g.h, g.n D ⟨_, h1⟩ u.fD, acc, g.h _ _ h1, Ty.all_mono g.f h2⟩
theorem Un.push (u : Un b ρ σ F1 H1 D U F H done) (hD : H1 D = none) (bD : b.H0 D = none) (un : ∀ (j : Nat) (s : Slt K), ρ[j]? = some (some s) → s.isOw = true → σ[j]? = some (some (.ref D)) → False) {acc : List V} {v : V} {y : γ} (ha : H D = some (.lst acc)) (r : U.rel y F v) : Un b ρ σ F1 H1 D U F (upd H D (.lst (acc ++ [v]))) (done ++ [y]) := by
  obtain ⟨acc', h1, h2⟩ := u.at_
  rw [ha] at h1; cases h1
  exact ⟨u.sf, u.S.chg (o := .lst acc) u.fD bD un, u.nF, fun p o e => by rw [upd_ne (ne_of_none e hD)]; exact u.sh _ _ e, u.fD, _, upd_same, prd_app h2 (.cons r .nil)⟩
end
section
variable {α β γ : Type} [Inhabited α] [Inhabited β] {X : Cx} {J : Jc X.K ε} {ρ : Ev X.K} {elt tg iter tg1 iter1 : Expr} {ifs ifs1 : List Expr} {pos : Pos} {T : Ty X.K α} {T1 : Ty X.K β} {U : Ty X.K γ} {ml : R ε (List α)} {wi wi1 : TI} {g g1 : TG} {tt tt1 : TT} {te : TE} {scope : Scope} {own : List (Str × Nat)} {vs1 : List Nat}
  {ρ' : α → Ev X.K} {ρ2 : α → β → Ev X.K} {mt : α → R ε Bool} {ml1 : α → R ε (List β)} {mt1 : α → β → R ε Bool} {f : α → β → R ε γ} {ix ix1 : List Nat}
abbrev DgEv (ρ : Ev K) (g : TG) {α : Type} (T : Ty K α) (ρ' : α → Ev K) (ix : List Nat) : Prop := ∀ (b : B) (F : Hp) (σ : St) (H : Hp) (v : V) (a : α) (Q : St → Hp → Prop), Sta b ρ F σ H → T.rel a F v → (∀ σ', σ'.length = σ.length → (∀ j, j ∉ ix → σ'[j]? = σ[j]?) → Sta b (ρ' a) F σ' H → Q σ' H) → g v σ H Q
theorem lc2_ev (hi : EvalIc J wi ρ T ml) (hg : DgEv (wipeE ρ (own.map (·.2))) g T ρ' ix) (kp : ∀ (a : α) (j : Nat), j ∉ ix → (ρ' a)[j]? = (wipeE ρ (own.map (·.2)))[j]?) (pl : ∀ (a : α) (j : Nat) (s : Slt X.K), j ∈ ix → (ρ' a)[j]? = some (some s) → s.isOw = false)
    (hix : ∀ j ∈ ix, j ∈ own.map (·.2)) (hix1 : ∀ j ∈ ix1, j ∈ vs1) (ht : ∀ a, EvalT J.no tt (ρ' a) (mt a)) (hi1 : ∀ a, EvalI J.no wi1 (ρ' a) T1 (ml1 a)) (hg1 : ∀ a, DgEv (wipeE (ρ' a) vs1) g1 T1 (ρ2 a) ix1)
    (ht1 : ∀ a c, EvalT J.no tt1 (ρ2 a c) (mt1 a c)) (he : ∀ a c, Eval J.no te (ρ2 a c) (rP U) (f a c)) :
    Eval J (tLc2 wi g tt wi1 g1 tt1 te (own.map (·.2)) vs1) ρ (rF (cLst U)) (ml.bind fun l => lc2R mt ml1 mt1 f l) := fun b F σ H Q S q => by
  refine hi b F σ H _ S ?_
  cases ml with
  | exn e => exact q
  | bad => exact q
  | ok l =>
    intro F1 H1 It1 g0 S1 wk D hD
    have q : PostE J b ρ (rF (cLst U)) F σ H Q (lc2R mt ml1 mt1 f l) := q
    unfold lc2R at q
    cases hr : lc2M mt ml1 mt1 f l with
    | exn e => rw [hr] at q; exact q.elim
    | bad => rw [hr] at q; exact q.elim
    | ok r =>
      rw [hr] at q
      by_cases hz : r.length ≤ sizeLine
      case neg => simp only [if_neg hz] at q; exact q.elim
      simp only [if_pos hz] at q
      have fD : F1 D = none := S1.fh.free hD
      have bD : b.H0 D = none := S1.h0.free hD
      have unD : ∀ (j : Nat) (s : Slt X.K), ρ[j]? = some (some s) → s.isOw = true → σ[j]? = some (some (.ref D)) → False := S1.fresh_un hD
      refine ⟨fun i m H2 => m = l.length - i ∧ i ≤ l.length ∧ ∃ (F2 : Hp) (done rest : List γ), Un b ρ σ F1 H1 D U F2 H2 done ∧ lc2M mt ml1 mt1 f (l.drop i) = .ok rest ∧ r = done ++ rest, ⟨l.length, by simp, Nat.zero_le _, F1, [], r, ⟨Same.refl _, S1.newH hD, fun _ _ z => z, same_upd hD, fD, [], upd_same, .nil⟩, hr, rfl⟩, ?_⟩
      rintro i m H2 ⟨rfl, hil, F2, done, rest, u2, hrest, hrr⟩
      obtain ⟨wgo, wst⟩ := wk i F2 H2 u2.sf u2.sh u2.S.fh
      by_cases hlt : i < l.length
      · obtain ⟨go, yld⟩ := wgo hlt
        rw [List.drop_eq_getElem_cons hlt] at hrest
        unfold lc2M at hrest
        obtain ⟨c, hc, hcc⟩ := R.bind_inv hrest
        refine .inr ⟨go, fun H3 => ∃ (F3 : Hp) (done rest : List γ), Un b ρ σ F1 H1 D U F3 H3 done ∧ lc2M mt ml1 mt1 f (l.drop (i + 1)) = .ok rest ∧ r = done ++ rest, fun H3 h3 => ⟨l.length - (i + 1), by omega, rfl, hlt, h3⟩, fun x H' y => ?_⟩
        obtain ⟨F3, g3, fh3, r3⟩ := yld x H' y
        have u3 := u2.grow g3 fh3
        refine hg b F3 _ H' x l[i] _ (u3.S.wipe _) r3 fun σ4 hl4 hj4 S4 => ⟨wipe_eq _ (hl4.trans (wipe_length _ _)) fun j hj => hj4 j fun z => hj (hix j z), ht _ b F3 σ4 H' _ S4 ?_⟩
        have un4 : ∀ (j : Nat) (s : Slt X.K), (ρ' l[i])[j]? = some (some s) → s.isOw = true → σ4[j]? = some (some (.ref D)) → False := fun j s e1 o e2 => by
          by_cases hj : j ∈ ix
          · rw [pl _ j s hj e1] at o; cases o
          · rw [kp _ j hj] at e1
            obtain ⟨n1, e3⟩ := wipeE_get e1
            rw [hj4 j hj, wipe_out n1] at e2
            exact unD j s e3 o e2
        rw [hc]
        intro F5 H5 g5 S5
        have u5 := u3.grow g5 S5.fh
        cases c with
        | false =>
          rw [if_neg Bool.false_ne_true] at hcc ⊢
          exact ⟨F5, done, rest, u5, hcc, hrr⟩
        | true =>
          rw [if_pos rfl] at hcc ⊢
          obtain ⟨l1, hl1, hcc⟩ := R.bind_inv hcc
          obtain ⟨r1, hr1, hcc⟩ := R.bind_inv hcc
          obtain ⟨r2, hr2, hcc⟩ := R.bind_inv hcc
          cases hcc
          refine hi1 _ b F5 σ4 H5 _ S5 ?_
          rw [hl1]
          intro F6 H6 It2 g6 S6 wk1
          have u6 := u5.grow g6 S6.fh
          refine ⟨fun j k H7 => k = l1.length - j ∧ j ≤ l1.length ∧ ∃ (F7 : Hp) (d1 t1 : List γ), Un b ρ σ F1 H1 D U F7 H7 (done ++ d1) ∧ Sta b (ρ' l[i]) F7 σ4 H7 ∧ Same F6 F7 ∧ lcM (mt1 l[i]) (f l[i]) (l1.drop j) = .ok t1 ∧ r1 = d1 ++ t1, ⟨l1.length, by simp, Nat.zero_le _, F6, [], r1, by rw [List.append_nil]; exact u6, S6, Same.refl _, hr1, rfl⟩, ?_⟩
          rintro j k H7 ⟨rfl, hjl, F7, d1, t1, u7, S7, s67, ht1', hr11⟩
          obtain ⟨wgo1, wst1⟩ := wk1 j F7 H7 s67 S7.fh
          by_cases hjlt : j < l1.length
          · obtain ⟨go1, yld1⟩ := wgo1 hjlt
            rw [List.drop_eq_getElem_cons hjlt] at ht1'
            obtain ⟨c1, hc1, hcc1⟩ := lcM_ok ht1'
            refine .inr ⟨go1, fun H8 => ∃ (F8 : Hp) (d1 t1 : List γ), Un b ρ σ F1 H1 D U F8 H8 (done ++ d1) ∧ Sta b (ρ' l[i]) F8 σ4 H8 ∧ Same F6 F8 ∧ lcM (mt1 l[i]) (f l[i]) (l1.drop (j + 1)) = .ok t1 ∧ r1 = d1 ++ t1, fun H8 h8 => ⟨l1.length - (j + 1), by omega, rfl, hjlt, h8⟩, fun x1 H8 y1 => ?_⟩
            obtain ⟨F8, g8, fh8, r8⟩ := yld1 x1 H8 y1
            have u8 := u7.grow g8 fh8
            have S8 := g8.sta S7 fh8
            refine hg1 _ b F8 _ H8 x1 l1[j] _ (S8.wipe _) r8 fun σ9 hl9 hj9 S9 => ⟨wipe_eq _ (hl9.trans (wipe_length _ _)) fun j hj => hj9 j fun z => hj (hix1 j z), ht1 _ _ b F8 σ9 H8 _ S9 ?_⟩
            rw [hc1]
            intro F10 H10 g10 S10
            have u10 := u8.grow g10 S10.fh
            have S10' := g10.sta S8 S10.fh
            cases c1 with
            | false =>
              rw [if_neg Bool.false_ne_true] at hcc1 ⊢
              exact ⟨F10, d1, t1, u10, S10', (s67.trans g8.f).trans g10.f, hcc1, hr11⟩
            | true =>
              rw [if_pos rfl] at hcc1 ⊢
              obtain ⟨y, r', hy, hr', hyr⟩ := hcc1
              refine he _ _ b F10 σ9 H10 _ S10 ?_
              rw [hy]
              intro F11 v H11 g11 S11 r11
              have u11 := u10.grow g11 S11.fh
              have S11' := g11.sta S10' S11.fh
              obtain ⟨acc, ha, hall⟩ := u11.at_
              have hlen : acc.length < sizeLine := by
                have e1 := Paired.length hall
                have e2 := congrArg List.length hrr
                have e3 := congrArg List.length hr11
                have e4 := congrArg List.length hyr
                simp only [List.length_append, List.length_cons] at e1 e2 e3 e4
                omega
              refine ⟨acc, ha, hlen, F11, d1 ++ [y], r', ?_, S11'.chg (o := .lst acc) u11.fD bD un4, ((s67.trans g8.f).trans g10.f).trans g11.f, hr', by rw [hr11, hyr, List.append_assoc]; rfl⟩
              rw [← List.append_assoc]
              exact u11.push hD bD unD ha r11
          · have e : j = l1.length := by omega
            subst e
            rw [List.drop_length] at ht1'
            cases ht1'
            rw [List.append_nil] at hr11
            subst hr11
            exact .inl ⟨wst1 (Nat.le_refl _), F7, done ++ r1, r2, u7, hr2, by rw [hrr, List.append_assoc]⟩
      · have e : i = l.length := by omega
        subst e
        rw [List.drop_length] at hrest
        cases hrest
        rw [List.append_nil] at hrr
        subst hrr
        obtain ⟨acc, ha, hall⟩ := u2.at_
        refine .inl ⟨wst (Nat.le_refl _), ?_⟩
        exact q F2 _ H2 ⟨g0.f.trans u2.sf, g0.h.trans u2.sh, fun p hp z => u2.nF p (by obtain ⟨o, e⟩ := hp; exact ⟨o, g0.h _ _ e⟩) (g0.n p hp z)⟩ u2.S ⟨D, _, rfl, g0.h.free hD, ha, u2.fD, acc, rfl, hall⟩
theorem de_lc2 (hc : X.calm = true) (hN : X.N.Nodup) (hi : DIc X J ρ tg iter wi T ml) (ok : BlkOk X.N X.env.scope scope own) (hv : ∀ i ∈ vs1, i ∈ own.map (·.2))
    (hg : ∀ (s : Shared) (H : Hp) (C : Addr) (cl : List (Str × Addr)) (fp : List Addr), DG (Blk X scope s H C cl fp) (wipeE ρ (own.map (·.2))) tg g T ρ' ix) (hix : ∀ j ∈ ix, j ∈ own.map (·.2))
    (ht : ∀ (s : Shared) (H : Hp) (C : Addr) (cl : List (Str × Addr)) (fp : List Addr) (a : α), DTs (Blk X scope s H C cl fp) J.no (ρ' a) ifs tt (mt a))
    (hi1 : ∀ (s : Shared) (H : Hp) (C : Addr) (cl : List (Str × Addr)) (fp : List Addr) (a : α), DI (Blk X scope s H C cl fp) J.no (ρ' a) tg1 iter1 wi1 T1 (ml1 a))
    (hg1 : ∀ (s : Shared) (H : Hp) (C : Addr) (cl : List (Str × Addr)) (fp : List Addr) (a : α), DG (Blk X scope s H C cl fp) (wipeE (ρ' a) vs1) tg1 g1 T1 (ρ2 a) ix1) (hix1 : ∀ j ∈ ix1, j ∈ vs1)
    (ht1 : ∀ (s : Shared) (H : Hp) (C : Addr) (cl : List (Str × Addr)) (fp : List Addr) (a : α) (c : β), DTs (Blk X scope s H C cl fp) J.no (ρ2 a c) ifs1 tt1 (mt1 a c))
    (he : ∀ (s : Shared) (H : Hp) (C : Addr) (cl : List (Str × Addr)) (fp : List Addr) (a : α) (c : β), DE (Blk X scope s H C cl fp) J.no (ρ2 a c) elt te (rP U) (f a c)) (hs1 : ∀ env x, foldedSetIterable iter1 env x = pure x := by intro _ _; rfl) :
    DE X J ρ (.ListComp elt [⟨tg, iter, ifs, 0⟩, ⟨tg1, iter1, ifs1, 0⟩] scope pos) (tLc2 wi g tt wi1 g1 tt1 te (own.map (·.2)) vs1) (rF (cLst U)) (ml.bind fun l => lc2R mt ml1 mt1 f l) :=
  ⟨pe_lc2 hc hN hi.pi ok hv (fun s H C cl fp => (hg s H C cl fp).pg) (fun s H C cl fp => (ht s H C cl fp default).pts) (fun s H C cl fp => (hi1 s H C cl fp default).pi) (fun s H C cl fp => (hg1 s H C cl fp default).pg) (fun s H C cl fp => (ht1 s H C cl fp default default).pts) (fun s H C cl fp => (he s H C cl fp default default).pe) hi.fs hs1,
    lc2_ev hi.ev (hg {} (fun _ => none) 0 [] []).ev (hg {} (fun _ => none) 0 [] []).kp (hg {} (fun _ => none) 0 [] []).pl hix hix1 (fun a => (ht {} (fun _ => none) 0 [] [] a).ev) (fun a => (hi1 {} (fun _ => none) 0 [] [] a).ev) (fun a => (hg1 {} (fun _ => none) 0 [] [] a).ev) (fun a c => (ht1 {} (fun _ => none) 0 [] [] a c).ev) fun a c => (he {} (fun _ => none) 0 [] [] a c).ev⟩
theorem ds_setLc2 {i : Nat} {y : Str} {py spos : Pos} (hc : X.calm = true) (hN : X.N.Nodup) (hy : X.N[i]? = some y) (hyl : X.env.scope.names.lookup y = some .local)
    (hsw : swapsWith (.ListComp elt [⟨tg, iter, ifs, 0⟩, ⟨tg1, iter1, ifs1, 0⟩] scope pos) (some (.Name y py)) spos.line X.env = pure true) (hi : DIc X J ρ tg iter wi T ml) (ok : BlkOk X.N X.env.scope scope own) (hv : ∀ i ∈ vs1, i ∈ own.map (·.2))
    (hg : ∀ (s : Shared) (H : Hp) (C : Addr) (cl : List (Str × Addr)) (fp : List Addr), DG (Blk X scope s H C cl fp) (wipeE ρ (own.map (·.2))) tg g T ρ' ix) (hix : ∀ j ∈ ix, j ∈ own.map (·.2))
    (ht : ∀ (s : Shared) (H : Hp) (C : Addr) (cl : List (Str × Addr)) (fp : List Addr) (a : α), DTs (Blk X scope s H C cl fp) J.no (ρ' a) ifs tt (mt a))
    (hi1 : ∀ (s : Shared) (H : Hp) (C : Addr) (cl : List (Str × Addr)) (fp : List Addr) (a : α), DI (Blk X scope s H C cl fp) J.no (ρ' a) tg1 iter1 wi1 T1 (ml1 a))
    (hg1 : ∀ (s : Shared) (H : Hp) (C : Addr) (cl : List (Str × Addr)) (fp : List Addr) (a : α), DG (Blk X scope s H C cl fp) (wipeE (ρ' a) vs1) tg1 g1 T1 (ρ2 a) ix1) (hix1 : ∀ j ∈ ix1, j ∈ vs1)
    (ht1 : ∀ (s : Shared) (H : Hp) (C : Addr) (cl : List (Str × Addr)) (fp : List Addr) (a : α) (c : β), DTs (Blk X scope s H C cl fp) J.no (ρ2 a c) ifs1 tt1 (mt1 a c))
    (he : ∀ (s : Shared) (H : Hp) (C : Addr) (cl : List (Str × Addr)) (fp : List Addr) (a : α) (c : β), DE (Blk X scope s H C cl fp) J.no (ρ2 a c) elt te (rP U) (f a c)) (hs1 : ∀ env x, foldedSetIterable iter1 env x = pure x := by intro _ _; rfl) :
    DS1 X J ρ (.Assign [.Name y py] (.ListComp elt [⟨tg, iter, ifs, 0⟩, ⟨tg1, iter1, ifs1, 0⟩] scope pos) spos) (tAsg (tLc2 wi g tt wi1 g1 tt1 te (own.map (·.2)) vs1) (gName i)) (fun a => .nx (ρ.set i (some (.ow (cLst U) a)))) (ml.bind fun l => lc2R mt ml1 mt1 f l) :=
  ⟨ps_setLc2 hc hN hy hyl hsw hi.pi ok hv (fun s H C cl fp => (hg s H C cl fp).pg) (fun s H C cl fp => (ht s H C cl fp default).pts) (fun s H C cl fp => (hi1 s H C cl fp default).pi) (fun s H C cl fp => (hg1 s H C cl fp default).pg) (fun s H C cl fp => (ht1 s H C cl fp default default).pts) (fun s H C cl fp => (he s H C cl fp default default).pe) hi.fs hs1, fun b F σ H D S q => by
    rw [← bindok (ml.bind fun l => lc2R mt ml1 mt1 f l)] at q
    exact (lc2_ev hi.ev (hg {} (fun _ => none) 0 [] []).ev (hg {} (fun _ => none) 0 [] []).kp (hg {} (fun _ => none) 0 [] []).pl hix hix1 (fun a => (ht {} (fun _ => none) 0 [] [] a).ev) (fun a => (hi1 {} (fun _ => none) 0 [] [] a).ev) (fun a => (hg1 {} (fun _ => none) 0 [] [] a).ev) (fun a c => (ht1 {} (fun _ => none) 0 [] [] a c).ev) fun a c => (he {} (fun _ => none) 0 [] [] a c).ev).thenS S q fun a F' v H' g S' r q' => by
      obtain ⟨p, o, rfl, n, hp, fp, r⟩ := r
      exact q' F' _ H' (Same.refl _) (S'.setO hp fp (S.h0.free n) r (S.fresh_un n))⟩
theorem dic {e : Expr} {wi wi' : TI} {ρ : Ev X.K} {m : R ε (List α)} (h : DI X J ρ tg e wi T m) (q : wi = wi') : DI X J ρ tg e wi' T m := q ▸ h
end
end Cp

/-! The data layer: sorted of lists of data. -/
namespace Cp
open PySem PySem.Spec L2 PySem.W
open PyProof.Rows hiding St
variable {K : PySem.W.Frag} {ε : Type}
def rSortedD (K : PySem.W.Frag) {β : Type} (py : β → PyData) : List V → Hp → VK → Prop := fun vs H Q => ∃ (Rl : V → β → Prop) (a : Addr) (xs : List V) (bs : List β), vs = [.ref a] ∧ SqL K H a xs ∧ Paired (fun x b => Rl x b ∧ Dp K H x (py b)) xs bs ∧ AllAlike (bs.map py) ∧ Sortable (bs.map py) ∧ (∀ b ∈ bs, (py b).depth ≤ 50) ∧
  ∀ ys p, Paired Rl ys (bs.mergeSort (dataLe false py)) → H p = none → Q (.ref p) (upd H p (.lst ys))
section
variable {X : Cx} {β : Type} {Rl : V → β → Prop} {py : β → PyData}
theorem each_of {pins : List (Addr × Obj)} {s : Shared} {σ : St} {H : Hp} (I : Inv X pins σ H s) : ∀ {xs : List V} {bs : List β} {us : List Value}, Paired (fun x b => Rl x b ∧ Dp X.K H x (py b)) xs bs → Vals xs us → EachIs (fun v b => ∃ x, RelV x v ∧ Rl x b) us bs ∧ EachIs (fun v b => ∃ as, Reads s.heap v (py b) as) us bs
  | _, _, _, .nil, .nil => ⟨.nil, .nil⟩
  | _, _, _, .cons r t, .cons q u => by
    obtain ⟨h1, h2⟩ := each_of I t u
    exact ⟨.cons ⟨_, q, r.1⟩ h1, .cons (Dp.reads I _ _ _ r.2 q) h2⟩
theorem back_of : ∀ {us : List Value} {bs : List β}, EachIs (fun v b => ∃ x, RelV x v ∧ Rl x b) us bs → ∃ ys, Vals ys us ∧ Paired Rl ys bs
  | _, _, .nil => ⟨[], .nil, .nil⟩
  | _, _, .cons ⟨x, h1, h2⟩ t => by
    obtain ⟨ys, g1, g2⟩ := back_of t
    exact ⟨x :: ys, .cons h1 g1, .cons h2 g2⟩
theorem cr_sortedD (hu : X.A.units + 64 < cLine) : CallR X (.builtin "sorted") (rSortedD X.K py) := by
  intro pins s σ H vs us Q I r ⟨Rl, a, xs, bs, e0, hs, hp, hal, hk, hd, q⟩
  subst e0
  obtain ⟨its, rv, hl, hz⟩ := I.list hs
  rw [Vals.ref1 r]
  obtain ⟨e1, e2⟩ := each_of I hp rv
  have hlen : bs.length ≤ sizeLine := by rw [← Paired.length hp]; exact hz
  refine sorted_data hl.isList e1 e2 hal hk hlen (fun b hb => by have := hd b hb; omega) fun out h1 h2 => ?_
  obtain ⟨ys, g1, g2⟩ := back_of h2
  obtain ⟨ep, he'⟩ := PyProof.Rows.sortedAll_at s.heap its out.toArray
  exact ⟨.ref _, upd H (s.heap.objs.size + 1) (.lst ys), I.laid (t' := s.toks) (fun _ _ => PyProof.Rows.sortedAll_old) (Nat.le_succ _) ⟨by rw [g1.length, h1]; exact hlen, out, ep, g1, he'⟩, rfl, q _ _ g2 (I.hok.fresh (Nat.le_succ _))⟩
end
/-- sorted as data -/
def sortD {α : Type} (py : α → PyData) (l : List α) : List α := l.mergeSort (dataLe false py)
section
variable {α : Type} {X : Cx} {J : Jc X.K ε} {ρ : Ev X.K} {e : Expr} {t : TE} {pos p : Pos} {μ : Md} {T : Ty X.K α} {ml : R ε (List α)}
theorem de_sortedD {P : Pd T} {py : α → PyData} (hpy : ∀ a, P.py a = py a) (hal : ∀ a b, alike (py a) (py b) = true) (hk : ∀ a, ∃ x r, py a = .tuple (x :: r)) (im : T.imm) (hu : X.A.units + 64 < cLine) (hg : Gl X "sorted") (hm : X.mg "sorted" = none) (ha : DE X J ρ e t (rV μ (yLst T)) ml) (hd : P.d ≤ 50 := by exact lo rfl)
    (he : starEach [e] X.env = (false, eval e X.env) :: starEach [] X.env := by rfl) : DE X J ρ (.Call (.Name "sorted" p) [e] [] pos) (tCB (rSortedD X.K py) (tCons t tNil)) (rF (cLst T)) (ml.bind fun l => .ok (sortD py l)) :=
  de_callB (cr_sortedD hu) hg hm (by decide +kernel) (da_one ha he) (fun b F σ H x v Q S ⟨w, e1, r⟩ q => by
    obtain ⟨p, xs, h1, h2, h3⟩ := r
    subst h1
    have h4 := all_back im S .b h3
    have hDp : ∀ {ys : List V} {bs : List α}, T.all bs F ys → Paired (fun x b => T.rel b F x ∧ Dp X.K H x (py b)) ys bs := fun h => Paired.mapP h fun x b r => ⟨r, by rw [← hpy]; exact Dp.mono S.fh _ _ (P.dp r).1⟩
    refine ⟨fun x b => T.rel b F x, p, xs, x, e1, .of (Gh.le S.fh _ _ h2), hDp h4, AllAlike.of hal, Sortable.tuples hk, fun b _ => by rw [← hpy]; exact Nat.le_trans (P.dep b) hd, fun ys p' g1 g2 => ?_⟩
    exact q _ _ _ (Gr.newH g2) (S.newH g2) ⟨p', _, rfl, g2, upd_same, S.freshF g2, ys, rfl, g1⟩) (he := he)
end
end Cp

/-! The data layer: the keys of a dict, walked. -/
namespace Cp
open PySem PySem.Spec L2
open PyProof.Rows hiding St
variable {K : PySem.W.Frag} {ε : Type}
def ItN (P : Program) (w : World) (d : Addr) (xs : List En) (o : Obj) : It :=
  ⟨fun i H => H d = some (dN P w d xs o) ∧ i < xs.length, fun i H v G => G = H ∧ ∃ e, xs[i]? = some e ∧ v = .ref e.2.1, fun i H => H d = some (dN P w d xs o) ∧ xs.length ≤ i⟩
section
variable {X : Cx} {pins : List (Addr × Obj)} {σ : St} {H : Hp} {s : Shared} {d : Addr} {xs : List En} {o : Obj}
theorem dn_raw (I : Inv X pins σ H s) (hp : H d = some (dN X.prog X.w d xs o)) : (d == sysModules) = false ∧ s.heap.get? d = some o ∧ o.ExactDict ∧ ∃ es ep, o.data = .dict es ep ∧ es.size = xs.length ∧ ∀ (i : Nat) (e : En), xs[i]? = some e → ∃ en, es[i]? = some en ∧ en.key = .ref e.2.1 ∧ RelV e.2.2 en.val := by
  obtain ⟨⟨g0, g1, g2, ys, g3, es, ep, g4, g5, g6, _⟩, _⟩ := (show ObjOk X.prog X.w H s.heap d (dN X.prog X.w d xs o) from I.hok d _ hp)
  refine ⟨g2, g0, g4, es, ep, g5, (size_of_entries g6).trans (Paired.length g3).symm, fun i e he => ?_⟩
  obtain ⟨y, hy, e1, e2, e3⟩ := paired_get g3 he
  refine ⟨entryOfKey (nestedKind X.prog X.w) y, by rw [entry_at g6 i, hy]; rfl, ?_, e3⟩
  show Value.ref y.2.1 = _
  rw [e2]
theorem turn_N {P : Program} {w : World} {tg : Expr} {es : Array DictEntry} {ep : Nat} (it : Addr) (hod : o.data = .dict es ep) : Turn P w K tg (ItN P w d xs o) [it] it (fun i h => h.IsKeyIter it d i xs.length ep) where
  mem := List.mem_singleton.mpr rfl
  obj := fun i h st b hb => by
    obtain ⟨oi, e, c, dd⟩ := st
    rw [List.mem_singleton.mp hb]
    exact ⟨oi, e, fun v z => by rw [dd] at z; cases z⟩
  keep := fun i h h' st k => st.at fun oi e => k it (by simp) oi e
  item := by
    intro X hP hw hK hc i pins s σ H E I hf st ⟨hd, hi⟩
    subst hP hw hK
    obtain ⟨f0, f1, f2, f3, f4, f5⟩ := hf it (by simp)
    obtain ⟨hs, hgd, hx, es', ep', hdt, hsz, ent⟩ := dn_raw I hd
    obtain ⟨rfl, rfl⟩ := dict_ep hod hdt
    obtain ⟨en, hen, hkey, _⟩ := ent i xs[i] (List.getElem?_eq_getElem hi)
    refine next_key_item st hgd hdt hsz hen fun h' st' sb => ?_
    obtain ⟨oi, e, c, dd⟩ := id st'
    exact ⟨en.key, rfl, go_of (s := { s with heap := h' }) e c dd (by decide) ⟨.ref xs[i].2.1, H, I.turned (t' := s.toks) (fun b ob hb e => (sb.2 b hb).trans e) f0 f1 f3 f4 f5, hkey, ⟨rfl, xs[i], List.getElem?_eq_getElem hi, rfl⟩, st', fun b hb => (hf b hb).1⟩⟩
  done := by
    intro X hP hw hK hc i pins s σ H E I hf st ⟨hd, hi⟩
    subst hP hw hK
    obtain ⟨f0, f1, f2, f3, f4, f5⟩ := hf it (by simp)
    obtain ⟨hs, hgd, hx, es', ep', hdt, hsz, ent⟩ := dn_raw I hd
    obtain ⟨rfl, rfl⟩ := dict_ep hod hdt
    exact next_key_end (I.ok.hd hc) st hgd hdt hsz hi fun h' eb => ⟨rfl, I.turned (t' := s.toks) (fun b ob hb e => eb b ob hb e) f0 f1 f3 f4 f5⟩
  self := fun A i s Q E st h => by
    refine wpAny_pyIter_slot st.typeIs F.slot_dict_keyiterator_iter (wpAny_call_entry F.slot_dict_keyiterator_iter st.typeIs F.entry_dict_keyiterator_iter ?_ (F.args_dict_keyiterator_iter_1 _))
    exact wpAny_pure ⟨_, rfl, "dict_keyiterator", _, st.typeIs, F.slot_dict_keyiterator_next.lookup, h⟩
def iN (P : Program) (w : World) (td : TE) : TI := fun σ H R => td σ H fun x G => ∃ d xs o, x = .ref d ∧ G d = some (dN P w d xs o) ∧ R (ItN P w d xs o) G
theorem pi_N {tg e : Expr} {td : TE} (he : PE X e td) : PI X tg e (iN X.prog X.w td) := by
  refine ⟨fun pins s σ H R I h => thn (he.run pins s σ H _ I h) fun u s1 ⟨x, G, J, rx, d, xs, o, ex, hd, q⟩ => ?_⟩
  subst ex
  cases rx
  obtain ⟨hs, hgd, hx, es, ep, hdt, hsz, ent⟩ := dn_raw J hd
  refine iter_keys hs hgd hx hdt (pi_one (tk := s1.toks) J _ (turn_N _ hdt) ⟨_, Heap.get?_push_size _ rfl, rfl, ?_⟩ q)
  rw [hsz] <;> rfl
end
section
variable {α β : Type} [DecidableEq α] {X : Cx} {J : Jc X.K ε} {ρ : Ev X.K} {e tg : Expr} {t : TE} {pos p : Pos} {μ : Md} {T : Ty X.K α} {k : Ky X.K T} {U : Ty X.K β} {md : R ε (List (α × β))}
def dkeys (l : List (α × β)) : List α := l.map (·.1)
theorem er_key {F : Hp} {xs : List En} {l : List (α × β)} (r : Paired (ER k U F) xs l) {i : Nat} (hi : i < (dkeys l).length) : ∃ x, xs[i]? = some x ∧ T.rel (dkeys l)[i] F (.ref x.2.1) := by
  unfold dkeys at hi ⊢
  rw [List.length_map] at hi
  have hl := Paired.length r
  have := paired_get r (i := i) (a := xs[i]'(by omega)) (List.getElem?_eq_getElem (by omega))
  obtain ⟨y, hy, q⟩ := this
  rw [List.getElem?_eq_getElem hi] at hy
  cases hy
  exact ⟨_, List.getElem?_eq_getElem (by omega), by rw [List.getElem_map]; exact q.2.1⟩
/-- a dict that is leant on: its keys -/
theorem di_dict (ha : DE X J ρ e t (rP (yDic X.prog X.w k U)) md) (fs : ∀ x, foldedSetIterable e X.env x = pure x := by intro _; rfl) : DI X J ρ tg e (iN X.prog X.w t) T (md.bind fun l => .ok (dkeys l)) :=
  ⟨pi_N ha.pe, fun b F σ H Q S q => ha.ev.thenI S q fun l F' v H' g S' r q' => by
    obtain ⟨p, o, h1, h2, xs, ob, h3, h4⟩ := r
    subst h3
    refine ⟨p, xs, ob, h1, S'.fh _ _ h2, PostI.here q' S' fun i F2 H2 f1 f2 => ?_⟩
    have hp := f2 _ _ (f1 _ _ h2)
    have hl : (dkeys l).length = xs.length := by unfold dkeys; rw [List.length_map, Paired.length h4]
    refine ⟨fun hi => ⟨⟨hp, by omega⟩, fun x G ⟨e1, en, e2, e3⟩ => ?_⟩, fun hi => ⟨hp, by omega⟩⟩
    subst e1 e3
    obtain ⟨y, e4, e5⟩ := er_key h4 hi
    rw [e2] at e4; cases e4
    exact ⟨F2, Gr.refl _ _, f2, T.mono f1 e5⟩, fs⟩
/-- an own dict, walked within a display -/
theorem dic_dict (ar : AtRef T) (im : T.imm) (ha : DE X J ρ e t (rV μ (yDic X.prog X.w k U)) md) (fs : ∀ x, foldedSetIterable e X.env x = pure x := by intro _; rfl) : DIc X J ρ tg e (iN X.prog X.w t) T (md.bind fun l => .ok (dkeys l)) :=
  ⟨pi_N ha.pe, fun b F σ H Q S q => ha.ev b F σ H _ S (by
    cases md with
    | exn e => exact q
    | bad => exact q
    | ok l =>
      intro F' v H' g S' r
      obtain ⟨p, o, h1, h2, xs, ob, h3, h4⟩ := r
      subst h3
      have hp := Md.le S' μ _ _ h2
      refine ⟨p, xs, ob, h1, hp, q F' H' _ g S' fun i F2 H2 f1 f2 f3 => ?_⟩
      have hl : (dkeys l).length = xs.length := by unfold dkeys; rw [List.length_map, Paired.length h4]
      refine ⟨fun hi => ⟨⟨f2 _ _ hp, by omega⟩, fun x G ⟨e1, en, e2, e3⟩ => ?_⟩, fun hi => ⟨f2 _ _ hp, by omega⟩⟩
      subst e1 e3
      obtain ⟨y, e4, e5⟩ := er_key h4 hi
      rw [e2] at e4; cases e4
      exact ⟨F2, Gr.refl _ _, f3, T.mono f1 (rel_back im S' μ e5)⟩), fs⟩
end
end Cp

/-! The data layer: list(d), len(d), a list or a tuple, constants of the module. -/
namespace Cp
open PySem PySem.Spec L2
open PyProof.Rows hiding St
variable {K : PySem.W.Frag} {ε : Type}
section
variable {X : Cx}
theorem call_list_dN (hc : X.calm = true) : CallR X (.type "list") (fun xs H Q => ∃ d es o, xs = [V.ref d] ∧ H d = some (dN X.prog X.w d es o) ∧ ∀ p, H p = none → Q (.ref p) (upd H p (.lst (es.map fun e => V.ref e.2.1)))) := by
  intro pins s σ H xs us Q I r h
  obtain ⟨d, kvs, ob, rfl, hd, q⟩ := h
  obtain ⟨u, rfl, rx⟩ := r.one
  cases rx
  obtain ⟨hs, ho, hx, es, ep, hdt, hsz, ent⟩ := dn_raw I hd
  obtain ⟨_, hl, _⟩ := (show ObjOk X.prog X.w H s.heap d (dN X.prog X.w d kvs ob) from I.hok d _ hd).1
  refine PySem.W.kdl_call (kdl_raw hs hx hdt) (I.ok.hd hc) ho (by omega) fun h' tk acc' c' kp e it => ?_
  have ea : acc'.toList = kvs.map fun x => Value.ref x.2.1 := by
    have hl : acc'.toList.length = kvs.length := by rw [Array.length_toList, it.1]; exact hsz
    apply List.ext_getElem?
    intro j
    rw [List.getElem?_map]
    cases hj : acc'.toList[j]? with
    | none =>
      have h1 := List.getElem?_eq_none_iff.mp hj
      rw [List.getElem?_eq_none (by omega)]
      all_goals rfl
    | some v =>
      obtain ⟨en, hen, hv⟩ := it.2 j v (by rw [← Array.getElem?_toList]; exact hj)
      have hb : j < kvs.length := by
        have := (List.getElem?_eq_some_iff.mp hj).1
        omega
      obtain ⟨en', h1, h2, h3⟩ := ent j kvs[j] (List.getElem?_eq_getElem hb)
      rw [hen] at h1; cases h1
      rw [List.getElem?_eq_getElem hb, hv, h2]
      all_goals rfl
  have eb : acc'.toList = (kvs.map fun x => x.2.1).map Value.ref := by rw [ea, List.map_map]; all_goals rfl
  have rv : Vals (kvs.map fun e => V.ref e.2.1) acc'.toList := by
    rw [eb, show (kvs.map fun e => V.ref e.2.1) = (kvs.map fun x => x.2.1).map V.ref from by rw [List.map_map]; rfl]
    exact vals_refs _
  have hz : (kvs.map fun e => V.ref e.2.1).length ≤ sizeLine := by rw [List.length_map]; omega
  refine ⟨.ref s.heap.objs.size, _, I.laid (t' := tk) (o := .lst (kvs.map fun e => V.ref e.2.1)) kp (Nat.le_refl _) ?_, rfl, q _ (I.hok.fresh (Nat.le_refl _))⟩
  exact ⟨hz, acc'.toList, c', rv, by rw [Array.toArray_toList]; exact e⟩
end
section
variable {α β : Type} [DecidableEq α] {X : Cx} {J : Jc X.K ε} {ρ : Ev X.K} {e : Expr} {t : TE} {pos p : Pos} {μ : Md} {T : Ty X.K α} {k : Ky X.K T} {U : Ty X.K β} {md : R ε (List (α × β))}
theorem er_all {F : Hp} {xs : List En} {l : List (α × β)} (r : Paired (ER k U F) xs l) : T.all (dkeys l) F (xs.map fun e => V.ref e.2.1) := by
  induction r with
  | nil => exact .nil
  | cons h t ih => exact .cons h.2.1 ih
theorem de_listD (hc : X.calm = true) (hi : T.imm) (hg : Gl X "list") (hm : X.mg "list" = none) (ha : DE X J ρ e t (rV μ (yDic X.prog X.w k U)) md) (he : starEach [e] X.env = (false, eval e X.env) :: starEach [] X.env := by rfl) :
    DE X J ρ (.Call (.Name "list" p) [e] [] pos) (tCB (fun xs H Q => ∃ d es o, xs = [V.ref d] ∧ H d = some (dN X.prog X.w d es o) ∧ ∀ p, H p = none → Q (.ref p) (upd H p (.lst (es.map fun e => V.ref e.2.1)))) (tCons t tNil)) (rF (cLst T)) (md.bind fun l => .ok (dkeys l)) :=
  de_callTy (call_list_dN hc) hg hm (by decide +kernel) (da_one ha he) (fun b F σ H x v Q S ⟨w, e1, r⟩ q => by
    obtain ⟨p, o, h1, h2, xs, ob, h3, h4⟩ := r
    subst h1 h3
    exact ⟨p, xs, ob, e1, (Gh.le S.fh) _ _ h2, new_lst S (all_back hi S .b (er_all h4)) q⟩) (he := he)
end
/-! ### a list or a tuple -/
section
variable {α : Type}
def ySq (T : Ty K α) : Ty K (List α) := ⟨fun a F v => ∃ p xs, v = .ref p ∧ (F p = some (.lst xs) ∨ SqT K F p xs) ∧ T.all a F xs, fun e ⟨p, xs, h, q, r⟩ => ⟨p, xs, h, q.imp (e _ _) (Same.sqt e), Ty.all_mono e r⟩⟩
theorem sqOfL {T : Ty K α} {a : List α} {F : Hp} {v : V} : (yLst T).rel a F v → (ySq T).rel a F v := fun ⟨p, xs, h, q, r⟩ => ⟨p, xs, h, .inl q, r⟩
theorem sqOfT {T : Ty K α} {a : List α} {F : Hp} {v : V} : (yTupOf T).rel a F v → (ySq T).rel a F v := fun ⟨p, xs, h, q, r⟩ => ⟨p, xs, h, .inr q, r⟩
theorem len_sq {T : Ty K α} : Len (ySq T) List.length := ⟨fun {a F H v} e ⟨p, xs, h1, h2, h3⟩ => by
  subst h1
  rcases h2 with h2 | h2
  · exact .inl ⟨xs, .of (e _ _ h2), (Paired.length h3).symm⟩
  · exact .inr ⟨xs, Same.sqt e h2, (Paired.length h3).symm⟩⟩
theorem sq_sq {T : Ty K α} : Sq T (ySq T) := ⟨fun e ⟨p, xs, h1, h2, h3⟩ => ⟨p, xs, h1, h2.imp (fun h => .of (e _ _ h)) (Same.sqt e), h3⟩⟩
end
section
variable {α : Type} {X : Cx} {J : Jc X.K ε} {ρ : Ev X.K} {e e' tg : Expr} {t t' : TE} {pos p : Pos} {μ ν : Md} {T : Ty X.K α} {ml : R ε (List α)} {mi : R ε Int}
theorem de_ixQ (ha : DE X J ρ e t (rV μ (ySq T)) ml) (hi : DE X J ρ e' t' (rV ν yInt) mi) (hs : PlainIx e' := by exact fun _ _ => rfl) :
    DE X J ρ (.Subscript e e' pos) (tOp (fun x y H Q => rIxL X.K x y H Q ∨ rIxT X.K x y H Q) t t') (rV μ T) (ml.bind fun l => mi.bind fun i => rIx l i) :=
  ⟨pe_ix (ix_list.or ix_tup) ha.pe hi.pe hs, ha.ev.op2 hi.ev fun b F σ H l i v w Q S r1 r2 q => by
    cases r2
    obtain ⟨p, xs, rfl, hp, r⟩ := r1
    unfold rIx at q
    cases z : atI l i with
    | none => rw [z] at q; exact q.elim
    | some a =>
      rw [z] at q
      obtain ⟨v, h1, h2⟩ := atI_rel r z
      rcases hp with hp | hp
      · exact .inl ⟨p, xs, i, v, rfl, rfl, .of (Md.le S μ _ _ hp), h1, PostE.here q S h2⟩
      · exact .inr ⟨p, xs, i, v, rfl, rfl, Same.sqt (Md.le S μ) hp, h1, PostE.here q S h2⟩⟩
def iSq (K : PySem.W.Frag) (tl : TE) : TI := fun σ H R => tl σ H fun x H1 => ∃ a, x = .ref a ∧ (((∃ xs, SqL K H1 a xs) ∧ R (Itl K a) H1) ∨ ((∃ xs, SqT K H1 a xs) ∧ R (Itt K a) H1))
theorem pi_sq {l : Expr} {tl : TE} (hl : PE X l tl) : PI X tg l (iSq X.K tl) := by
  refine ⟨fun pins s σ H R I h => ?_⟩
  refine thn (hl.run pins s σ H _ I h) fun v s1 ⟨x, H1, I1, r1, q1⟩ => ?_
  obtain ⟨a, e, q1⟩ := q1
  subst e
  cases r1
  rcases q1 with ⟨⟨xs, hq⟩, q⟩ | ⟨⟨xs, hq⟩, q⟩
  · obtain ⟨its, rv, p, hz⟩ := I1.list hq
    refine wpAny_pyIter_list p.isList ?_
    refine ⟨s1.heap.objs.size, [s1.heap.objs.size], _, _, H1, rfl, I1.kept (t' := s1.toks) fun b o e => Heap.get?_push_of_some _ e, turn_list a _, ⟨_, Heap.get?_push_size _ rfl, rfl, rfl⟩, fun b hb => ?_, q⟩
    have e : b = s1.heap.objs.size := by simpa using hb
    subst e
    exact I1.fpOk (Nat.le_refl _) (I1.hok.fresh (Nat.le_refl _))
  · obtain ⟨its, rv, p, hz⟩ := I1.tuple hq
    refine wpAny_pyIter_tuple (show s1.heap.IsTuple a its.toArray from p) ?_
    refine ⟨s1.heap.objs.size, [s1.heap.objs.size], _, _, H1, rfl, I1.kept (t' := s1.toks) fun b o e => Heap.get?_push_of_some _ e, turn_tuple a _, ⟨_, Heap.get?_push_size _ rfl, rfl, rfl⟩, fun b hb => ?_, q⟩
    have e : b = s1.heap.objs.size := by simpa using hb
    subst e
    exact I1.fpOk (Nat.le_refl _) (I1.hok.fresh (Nat.le_refl _))
theorem di_sq (ha : DE X J ρ e t (rP (ySq T)) ml) (fs : ∀ x, foldedSetIterable e X.env x = pure x := by intro _; rfl) : DI X J ρ tg e (iSq X.K t) T ml :=
  ⟨pi_sq ha.pe, fun b F σ H Q S q => ha.ev.thenI S (k := fun l => .ok l) (by rw [bindok]; exact q) fun a F' v H' g S' r q' => by
    obtain ⟨p, xs, h1, h2, h3⟩ := r
    rcases h2 with h2 | h2
    · exact ⟨p, h1, .inl ⟨⟨xs, .of (S'.fh _ _ h2)⟩, PostI.here q' S' (walks_list h2 h3)⟩⟩
    · exact ⟨p, h1, .inr ⟨⟨xs, Same.sqt S'.fh h2⟩, PostI.here q' S' (walks_tup h2 h3)⟩⟩, fs⟩
/-- a constant of the module -/
theorem de_gS {x z : Str} (hg : Gl X x) (hm : ∃ tk, X.mg x = some (.str z tk)) (hz : PySem.PyData.strOk z = true := by decide +kernel) (hd : (x == ("__debug__" : Str)) = false := by decide) : DE X J ρ (.Name x pos) (tC (.str z)) (rP yStr) (.ok z) :=
  de_c (T := yStr) (a := z) (let ⟨tk, h⟩ := hm; pe_glob hg h ⟨_, rfl⟩ hd) (fun _ => ⟨rfl, hz⟩)
theorem de_gI {x : Str} {z : Int} (hg : Gl X x) (hm : ∃ tk, X.mg x = some (.int z tk)) (hd : (x == ("__debug__" : Str)) = false := by decide) : DE X J ρ (.Name x pos) (tC (.int z)) (rP yInt) (.ok z) :=
  de_c (T := yInt) (a := z) (let ⟨tk, h⟩ := hm; pe_glob hg h ⟨_, rfl⟩ hd) (fun _ => rfl)
end
end Cp

/-! The data layer: t[::-1] of a tuple. -/
namespace Cp
open PySem PySem.Spec L2
open PyProof.Rows hiding St
variable {K : PySem.W.Frag} {ε : Type}
section
open HT
variable {prog : Program} {w : World} {A : Around} {E : Value → Shared → Prop} {s : Shared}
theorem applied_rev {sl : Addr} {vl vu vs : Value} {n : Nat} {Q : Int × Int × Nat → Shared → Prop} (hs : s.heap.IsSliceOf sl vl vu vs) (pl : IsPart vl none) (pu : IsPart vu none) (ps : IsPart vs (some (-1)))
    (h : Q ((n : Int) - 1, -1, n) s) : wpAny (model prog w) A (Builtin.Slice.sliceApplied (.ref sl) (pure (n : Int))) Q E s := by
  obtain ⟨os, hos, hcs, hds⟩ := id hs
  unfold Builtin.Slice.sliceApplied Builtin.Slice.sliceFields
  refine wpAny_bind (wpAny_bind (wpAny_field hos hds (x := vl) rfl (wpAny_bind (wpAny_field hos hds (x := vu) rfl (wpAny_bind (wpAny_field hos hds (x := vs) rfl (wpAny_pure ?_)))))))
  refine wpAny_bind (slicePart_ ps ?_)
  show wpAny _ _ (if ((-1 : Int) == 0) = true then _ else _) _ _ s
  rw [if_neg (by decide)]
  refine wpAny_bind (slicePart_ pl (wpAny_bind (slicePart_ pu (wpAny_bind (wpAny_pure ?_)))))
  have e1 : Builtin.Slice.sliceAdjust none none (-1) (n : Int) = ((n : Int) - 1, -1) := by
    unfold Builtin.Slice.sliceAdjust
    rfl
  have e2 : Builtin.Slice.slicePlaces ((n : Int) - 1) (-1) (-1) = n := by
    unfold Builtin.Slice.slicePlaces
    have h1 : ¬ ((-1 : Int) > 0) := by omega
    simp only [h1, if_false, Int.neg_neg, Int.ediv_one]
    split <;> omega
  show wpAny _ _ (match Builtin.Slice.sliceAdjust none none (-1) (n : Int) with | (lo, hi) => pure (lo, (-1 : Int), Builtin.Slice.slicePlaces lo hi (-1))) _ _ s
  rw [e1]
  show wpAny _ _ (pure ((n : Int) - 1, (-1 : Int), Builtin.Slice.slicePlaces ((n : Int) - 1) (-1) (-1))) _ _ s
  rw [e2]
  exact wpAny_pure h
theorem pick_rev (xs : Array Value) : ((List.range xs.size).filterMap fun (m : Nat) => xs[(((xs.size : Int) - 1) + (m : Int) * (-1)).toNat]?).toArray = xs.toList.reverse.toArray := by
  congr 1
  have hall : ∀ m, m < xs.size → xs[(((xs.size : Int) - 1) + (m : Int) * (-1)).toNat]? = xs.toList.reverse[m]? := fun m hm => by
    have e : (((xs.size : Int) - 1) + (m : Int) * (-1)).toNat = xs.size - 1 - m := by omega
    rw [e, List.getElem?_reverse (by simpa using hm)]
    simp
  have : ∀ k, k ≤ xs.size → ((List.range k).filterMap fun (m : Nat) => xs[(((xs.size : Int) - 1) + (m : Int) * (-1)).toNat]?) = xs.toList.reverse.take k := fun k => by
    induction k with
    | zero => intro _; simp
    | succ k ih =>
      intro hk
      rw [List.range_succ, List.filterMap_append, ih (by omega)]
      have hlt : k < xs.toList.reverse.length := by simp only [List.length_reverse, Array.length_toList]; omega
      rw [List.take_add_one, List.getElem?_eq_getElem hlt]
      simp only [List.filterMap_cons, List.filterMap_nil]
      rw [hall k (by omega), List.getElem?_eq_getElem hlt]
      rfl
  rw [this xs.size (Nat.le_refl _)]
  exact List.take_of_length_le (by simp)
theorem getItem_tuple_rev {t sl : Addr} {items : Array Value} {vl vu vs : Value} {Q : Value → Shared → Prop} (ht : IsTup s.heap t items) (hs : s.heap.IsSliceOf sl vl vu vs) (pl : IsPart vl none) (pu : IsPart vu none) (ps : IsPart vs (some (-1)))
    (h : Q (.ref s.heap.objs.size) { s with heap := s.heap.push { cls := .type "tuple", data := .seq items.toList.reverse.toArray } })
    (hsz : items.size ≤ sizeLine) : wpAny (model prog w) A (getItem (.ref t) (.ref sl)) Q E s := by
  have htake : sizeOk (.seq items.toList.reverse.toArray) := by
    show items.toList.reverse.toArray.size ≤ sizeLine
    rw [List.size_toArray, List.length_reverse, Array.length_toList]
    exact hsz
  obtain ⟨os, hos, hcs, hds⟩ := id hs
  have hTs : s.TypeIs (.ref sl) "slice" := ⟨os, hos, hcs⟩
  unfold getItem
  try with_reducible refine wpAny_holding ?_
  first | refine wpAny_bind (wpAny_pure ?_) | skip
  refine wpAny_bind (wpAny_sequenceKey ht.typeIs (by decide) ?_)
  refine wpAny_bind (wpAny_callSpecial?_slot (name := Str.ofString "__getitem__") ht.typeIs PyProof.Rows.slot_tuple_getitem
    (wpAny_call_entry PyProof.Rows.slot_tuple_getitem ht.typeIs entry_tuple_getitem ?_ (args_tuple_getitem _ _)))
  show wpAny _ _ (Builtin.Tuple.tupleItemsOf (.ref t) >>= _) _ _ s
  refine wpAny_bind (tupleItemsOf_ ht ?_)
  refine wpAny_bind (wpAny_typeOf hTs ?_)
  rw [if_pos (by decide)]
  refine wpAny_bind (applied_rev hs pl pu ps ?_)
  have hno : ¬ (((((items.size : Int) - 1) == 0 && (-1 : Int) == 1 && items.size == items.size)) = true) := by
    intro q
    rw [Bool.and_eq_true, Bool.and_eq_true] at q
    exact absurd (eq_of_beq q.1.2) (by decide)
  show wpAny _ _ (if (((items.size : Int) - 1) == 0 && (-1 : Int) == 1 && items.size == items.size) = true then _ else _) _ _ s
  rw [if_neg hno, pick_rev]
  first
    | exact wpAny_bind (m := Builtin.Tuple.tupleExact _) (wpAny_newObj_type (wpAny_pure ⟨_, rfl, wpAny_pure h⟩) htake)
    | exact wpAny_bind (m := Builtin.Tuple.tupleExact _) (wpAny_newObj_type (wpAny_bind (wpAny_pure (wpAny_pure ⟨_, rfl, wpAny_pure h⟩))) htake)
    | exact wpAny_bind (wpAny_bind (m := Builtin.Tuple.tupleExact _) (wpAny_newObj_type (wpAny_pure (wpAny_pure ⟨_, rfl, wpAny_pure h⟩)) htake))
    | exact wpAny_bind (wpAny_bind (m := Builtin.Tuple.tupleExact _) (wpAny_newObj_type (wpAny_pure ⟨_, rfl, wpAny_pure h⟩) htake))
end
section
variable {X : Cx}
def tRevT (K : PySem.W.Frag) (te : TE) : TE := fun σ H Q => te σ H fun x H1 => ∃ a xs, x = .ref a ∧ SqT K H1 a xs ∧ ∀ p, H1 p = none → Q (.ref p) (upd H1 p (.tup xs.reverse))
theorem pe_revT {e : Expr} {te : TE} {k : Nat} {p1 p2 p3 pos : Pos} (he : PE X e te) : PE X (.Subscript e (.Slice none none (some (.UnaryOp .USub (.Constant (.int 1) k p1) p2)) p3) pos) (tRevT X.K te) := by
  refine ⟨fun pins s σ H Q I h => ?_⟩
  refine Subscript_ (thn (he.run pins s σ H _ I h) fun v s1 ⟨x, H1, I1, r1, q1⟩ => ?_)
  obtain ⟨a, xs, ex, hx, q⟩ := q1
  subst ex
  cases r1
  have hst : PO X (some (.UnaryOp .USub (.Constant (.int 1) k p1) p2)) (tPart (tUn (rU fun i => .int (-i)) (tC (.int 1)))) := po_some (pe_un un_neg pe_int)
  refine wpAny_Slice (thn (po_none.run pins s1 σ H1 (fun o H2 => o = none ∧ H2 = H1) I1 ⟨rfl, rfl⟩) fun vl s2 ⟨l, H2, I2, pl, el, e2⟩ => ?_)
  subst el e2
  refine thn (po_none.run pins s2 σ H2 (fun o H3 => o = none ∧ H3 = H2) I2 ⟨rfl, rfl⟩) fun vu s3 ⟨u, H3, I3, pu, eu, e3⟩ => ?_
  subst eu e3
  refine thn (hst.run pins s3 σ H3 (fun o H4 => o = some (-1) ∧ H4 = H3) I3 ⟨1, rfl, -1, rfl, rfl, rfl⟩) fun vs s4 ⟨o, H4, I4, ps, eo, e4⟩ => ?_
  subst eo e4
  have I5 : Inv X pins σ H4 { s4 with heap := s4.heap.push { cls := .type "slice", data := .fields #[vl, vu, vs] } } := I4.kept (t' := s4.toks) fun b ob q => Heap.get?_push_of_some _ q
  obtain ⟨its, r, ht, hz⟩ := I5.tuple hx
  have hlen := r.length
  show wpAny (model X.prog X.w) X.A (subscriptTail e (.Slice none none (some (.UnaryOp .USub (.Constant (.int 1) k p1) p2)) p3) (.ref a) (.ref s4.heap.objs.size)) (L2.EP X pins σ Q) X.xe { s4 with heap := s4.heap.push { cls := .type "slice", data := .fields #[vl, vu, vs] } }
  refine tail_any (ops := [.ref a, .ref s4.heap.objs.size]) ht.typeIs (PyProof.Rows.slot_tuple_getitem.lookup) ?_ (by with_unfolding_all rfl)
  refine getItem_tuple_rev ht (Heap.IsSliceOf.new _ vl vu vs) pl pu ps ?_ (by rw [List.size_toArray]; omega)
  refine ⟨.ref _, _, I5.laid (t' := s4.toks) (o := .tup xs.reverse) (fun b ob q => Heap.get?_push_of_some _ q) (Nat.le_refl _) ?_, rfl, q _ (I5.hok.fresh (Nat.le_refl _))⟩
  exact ⟨by rw [List.length_reverse]; exact hz, _, r.reverse, IsTup.new _ _⟩
end
section
variable {α : Type} {X : Cx} {J : Jc X.K ε} {ρ : Ev X.K} {e : Expr} {t : TE} {pos p : Pos} {μ : Md}
theorem de_revT {T : Ty X.K α} {ml : R ε (List α)} {k : Nat} {p1 p2 p3 : Pos} (hi : T.imm) (ha : DE X J ρ e t (rV μ (yTupOf T)) ml) :
    DE X J ρ (.Subscript e (.Slice none none (some (.UnaryOp .USub (.Constant (.int 1) k p1) p2)) p3) pos) (tRevT X.K t) (rP (yTupOf T)) (ml.bind fun a => .ok a.reverse) :=
  ⟨pe_revT ha.pe, fun b F σ H Q S q => ha.ev.then_ S q fun a F1 v H1 g1 S1 r1 q1 => by
    obtain ⟨p, xs, rfl, h2, h3⟩ := r1
    exact ⟨p, xs, rfl, Same.sqt (Md.le S1 μ) h2, new_tup S1 (prd_rev (all_back hi S1 μ h3)) q1⟩⟩
end
theorem imm_cDic {α β : Type} {P : Program} {w : World} {T : Ty K α} {k : Ky K T} {U : Ty K β} (i : T.imm) (j : U.imm) : (cDic P w k U).imm := fun h ⟨xs, ob, e, r⟩ => ⟨xs, ob, e, Paired.mapP r fun x a q => ⟨q.1, i h q.2.1, j h q.2.2⟩⟩
end Cp

namespace CpLaw
open PySem PySem.Spec L2 Cp
open PyProof.Rows hiding St
variable {K : PySem.W.Frag}
def top (i : Nat) : Stmt := PySem.Challenge.pw_cornerplane_k18_sayings_and_rings.main.body.getD i (.Pass ⟨0, 0, 0, 0⟩)
abbrev FnP (K : PySem.W.Frag) (x : Str) (st : Stmt) (f : Addr) (fd : FuncData) : Prop := FunD K x x (defArgs st) (defBody st) (defScope st) [] [] f fd
abbrev Er := Empty
abbrev EX : Ex Er := ⟨fun e => (nomatch e), fun {e} => (nomatch e)⟩
abbrev CX : CXT := CX0
theorem passC {X : Cx} {E : St → XK} : ∀ σ, PassesAt CX X σ (E σ) := passC0
structure Bt (mg : Str → Option Value) : Prop where
  bool : mg "bool" = none
  int : mg "int" = none
  isinstance : mg "isinstance" = none
  len : mg "len" = none
  list : mg "list" = none
  max : mg "max" = none
  min : mg "min" = none
  range : mg "range" = none
  sorted : mg "sorted" = none
  tuple : mg "tuple" = none
  k_FALLING : ∃ tk, mg "FALLING" = some (.str ("falling" : PySem.Str) tk)
  k_RISING : ∃ tk, mg "RISING" = some (.str ("rising" : PySem.Str) tk)
abbrev s_half_of : Stmt := top 3
abbrev s_slot_of : Stmt := top 4
abbrev s_path_kind : Stmt := top 6
abbrev s_sayings_of_row : Stmt := top 8
abbrev s_sayings_of_path : Stmt := top 10
abbrev s_sayings_of_paths : Stmt := top 11
abbrev s_said : Stmt := top 12
abbrev s_find_ring : Stmt := top 13
abbrev s_is_ring_own : Stmt := top 14
abbrev s_cell : Stmt := top 16
abbrev s_draws : Stmt := top 17
abbrev s_board : Stmt := top 18
abbrev s_moved : Stmt := top 19
abbrev s_on_board : Stmt := top 20
abbrev s_path : Stmt := top 21
abbrev s_is_integer : Stmt := top 22
abbrev s_is_corner : Stmt := top 23
abbrev s_is_row : Stmt := top 24
abbrev s_sayings : Stmt := top 25
abbrev s_rings : Stmt := top 26
abbrev s_is_ring : Stmt := top 27
abbrev s_part : Stmt := top 28
abbrev s_turned : Stmt := top 29
abbrev s_long_path : Stmt := top 30
abbrev s_drawn_path : Stmt := top 31
abbrev s_certificates : Stmt := top 32
abbrev s_union : Stmt := top 33
abbrev s_law : Stmt := top 34
def m_cell (script_p : (List Int)) (k_p : Int) : R Er Int := if (decide (k_p < (List.length script_p : Int))) then (((rIx script_p k_p)).bind fun v1 => R.ok v1) else
  (R.ok (0 : Int))
abbrev sp_cell (P : Program) (w : World) (K : PySem.W.Frag) : Sp := spD (K := K) EX (tysC (yScr yInt) (tys1 yInt)) (qP (K := K) yInt) (fun a => m_cell a.1 a.2)
theorem sc_cell : FnScope ["_law_script", "_law_k"] ["_law_script", "_law_k"] (defScope s_cell) := ⟨rfl, rfl, rfl, by decide +kernel, rfl, by decide +kernel, by decide +kernel⟩
theorem ok_cell {P : Program} {w : World} {K : PySem.W.Frag} {mg : Str → Option Value} {base : Heap} {f : Addr} {fd : FuncData} (F : FnP K "_law_cell" s_cell f fd) (bt : Bt mg) : FnOk P w K mg base CX 1 f fd ["_law_script", "_law_k"] (sp_cell P w K) := by
  refine fn_ok F sc_cell (entC (ent1 rfl)) rfl fun cdv A outer s H E hr a => ?_
  obtain ⟨script_p, k_p⟩ := a
  have sc := sc_cell
  exact ⟨_, fun c => .rt (qP (K := K) yInt c), DS.cast (m' := m_cell script_p k_p) (ds_ift (DQ.dt (dq_lt (de_var (pv 1) rfl) (de_len len_scr rfl bt.len (de_var (pv 0) rfl)))) (ds_one (ds_ret (f := (fun a => a)) (de_int1 rfl bt.int (de_ixS (de_var (pv 0) rfl) (de_var (pv 1) rfl))) (fun _ => rfl))) (fun _ => rfl) (ds_one (ds_ret (f := (fun a => a)) (de_c (T := yInt) (a := (0 : Int)) pe_int (fun _ => rfl)) (fun _ => rfl)))) (by unfold m_cell; simp only [bo, isIn_dec, andok, orok]), fun _ => .inl rfl⟩
def m_draws (cell_here_p : Int) (sizes_p : (List Int)) : R Er (List Int) := (R.ok ([] : List Int)).bind fun (drawn_1 : (List Int)) =>
  (R.ok cell_here_p).bind fun (rest_2 : Int) =>
  (((rPow (10 : Int) (18 : Int))).bind fun v4 => R.ok (decide (v4 ≤ rest_2))).bind fun (digits_3 : Bool) =>
  (((rRng 0 (List.length sizes_p : Int))).bind fun v26 => forS (fun (k_5 : Int) (s6 : ((List Int) × Int)) => ((rIx sizes_p k_5)).bind fun (size_7 : Int) =>
  if (digits_3 && (decide ((0 : Int) < s6.2))) then ((((rMod s6.2 size_7)).bind fun v10 => (rApp s6.1 v10)).bind fun (c9 : Int) =>
  ((rDiv s6.2 size_7)).bind fun (rest_11 : Int) =>
  R.ok ((s6.1 ++ [c9]), rest_11)) else
  ((((((rMul (7919 : Int) k_5)).bind fun v13 => R.ok (cell_here_p + v13)).bind fun v14 => R.ok (v14 + (13 : Int))).bind fun v15 => (rMod v15 (2147483647 : Int))).bind fun (mixed_12 : Int) =>
  (((rMul mixed_12 (mixed_12 + (48271 : Int)))).bind fun v17 => (rMod v17 (2147483629 : Int))).bind fun (mixed_16 : Int) =>
  ((((rMul mixed_16 (mixed_16 + (69621 : Int)))).bind fun v19 => ((rMul (31 : Int) k_5)).bind fun v20 => R.ok (v19 + v20)).bind fun v21 => (rMod v21 (2147483647 : Int))).bind fun (mixed_18 : Int) =>
  ((((rDiv mixed_18 (9 : Int))).bind fun v23 => (rMod v23 size_7)).bind fun v25 => (rApp s6.1 v25)).bind fun (c24 : Int) =>
  R.ok ((s6.1 ++ [c24]), s6.2))) v26 (drawn_1, rest_2)).bind fun (s27 : ((List Int) × Int)) =>
  R.ok s27.1
abbrev sp_draws (P : Program) (w : World) (K : PySem.W.Frag) : Sp := spD (K := K) EX (tysC yInt (tys1 (yLst yInt))) (qF (K := K) (cLst yInt)) (fun a => m_draws a.1 a.2)
theorem sc_draws : FnScope ["_law_cell_here", "_law_sizes", "_law_drawn", "_law_rest", "_law_digits", "_law_k", "_law_size", "_law_mixed"] ["_law_cell_here", "_law_sizes"] (defScope s_draws) := ⟨rfl, rfl, rfl, by decide +kernel, rfl, by decide +kernel, by decide +kernel⟩
theorem ok_draws {P : Program} {w : World} {K : PySem.W.Frag} {mg : Str → Option Value} {base : Heap} {f : Addr} {fd : FuncData} (F : FnP K "_law_draws" s_draws f fd) (bt : Bt mg) : FnOk P w K mg base CX 1 f fd ["_law_cell_here", "_law_sizes"] (sp_draws P w K) := by
  refine fn_ok F sc_draws (entC (ent1 rfl)) rfl fun cdv A outer s H E hr a => ?_
  obtain ⟨cell_here_p, sizes_p⟩ := a
  have sc := sc_draws
  exact ⟨_, fun c => .rt (qF (K := K) (cLst yInt) c), DS.cast (m' := m_draws cell_here_p sizes_p) (ds_cons (ρ1 := fun (drawn_1 : (List Int)) => [some (.pl yInt cell_here_p), some (.pl (yLst yInt) sizes_p), some (.ow (cLst yInt) drawn_1), none, none, none, none, none]) (ds_setF (i := 2) sc.nd rfl (.inl rfl) (de_lst (T := yInt) (dl_nil))) (fun (drawn_1 : (List Int)) => ds_cons (ρ1 := fun (rest_2 : Int) => [some (.pl yInt cell_here_p), some (.pl (yLst yInt) sizes_p), some (.ow (cLst yInt) drawn_1), some (.pl yInt rest_2), none, none, none, none]) (ds_set (i := 3) sc.nd rfl (.inl rfl) (de_int1 rfl bt.int (de_var (pv 0) rfl))) (fun (rest_2 : Int) => ds_cons (ρ1 := fun (digits_3 : Bool) => [some (.pl yInt cell_here_p), some (.pl (yLst yInt) sizes_p), some (.ow (cLst yInt) drawn_1), some (.pl yInt rest_2), some (.pl yBl digits_3), none, none, none]) (ds_set (i := 4) sc.nd rfl (.inl rfl) (DQ.de (dq_ge (de_var (pv 3) rfl) (de_pow (de_c (T := yInt) (a := (10 : Int)) pe_int (fun _ => rfl)) (de_c (T := yInt) (a := (18 : Int)) pe_int (fun _ => rfl)))))) (fun (digits_3 : Bool) => ds_cons (ρ1 := fun (s27 : ((List Int) × Int)) => [some (.pl yInt cell_here_p), some (.pl (yLst yInt) sizes_p), some (.ow (cLst yInt) s27.1), some (.pl yInt s27.2), some (.pl yBl digits_3), none, none, none]) (ds_forS (eH := fun (s6 : ((List Int) × Int)) => [some (.pl yInt cell_here_p), some (.pl (yLst yInt) sizes_p), some (.ow (cLst yInt) s6.1), some (.pl yInt s6.2), some (.pl yBl digits_3), none, none, none]) (eB := fun (s6 : ((List Int) × Int)) (k_5 : Int) => [some (.pl yInt cell_here_p), some (.pl (yLst yInt) sizes_p), some (.ow (cLst yInt) s6.1), some (.pl yInt s6.2), some (.pl yBl digits_3), some (.pl yInt k_5), none, none]) (a0 := (drawn_1, rest_2)) (passes_of rfl) rfl (di_range1 rfl bt.range (de_len len_lst rfl bt.len (de_var (pv 1) rfl))) (.keep (.keep (.keep (.keep (.keep (.keep (.keep (.keep .nil)))))))) (fun (s6 : ((List Int) × Int)) => dg_name (pg_name (i := 5) sc.nd rfl (.inl rfl))) (fun (s6 : ((List Int) × Int)) (k_5 : Int) => ds_cons (ρ1 := fun (size_7 : Int) => [some (.pl yInt cell_here_p), some (.pl (yLst yInt) sizes_p), some (.ow (cLst yInt) s6.1), some (.pl yInt s6.2), some (.pl yBl digits_3), some (.pl yInt k_5), some (.pl yInt size_7), none]) (ds_set (i := 6) sc.nd rfl (.inl rfl) (de_ixL (de_var (pv 1) rfl) (de_var (pv 5) rfl))) (fun (size_7 : Int) => ds_one (ds_if1 (DW.dt (dw_and (dt_val (de_var (pv 4) rfl)) (dw_and1 (DQ.dt (dq_gt (de_var (pv 3) rfl) (de_c (T := yInt) (a := (0 : Int)) pe_int (fun _ => rfl))))))) (ds_cons (ρ1 := fun (c9 : Int) => [some (.pl yInt cell_here_p), some (.pl (yLst yInt) sizes_p), some (.ow (cLst yInt) (s6.1 ++ [c9])), some (.pl yInt s6.2), some (.pl yBl digits_3), some (.pl yInt k_5), some (.pl yInt size_7), none]) (ds_append (pv 2) rfl (de_mod (de_int1 rfl bt.int (de_var (pv 3) rfl)) (de_var (pv 6) rfl))) (fun (c9 : Int) => ds_cons (ρ1 := fun (rest_11 : Int) => [some (.pl yInt cell_here_p), some (.pl (yLst yInt) sizes_p), some (.ow (cLst yInt) (s6.1 ++ [c9])), some (.pl yInt rest_11), some (.pl yBl digits_3), some (.pl yInt k_5), some (.pl yInt size_7), none]) (ds_set (i := 3) sc.nd rfl (.inl rfl) (de_div (de_var (pv 3) rfl) (de_var (pv 6) rfl))) (fun (rest_11 : Int) => ds_nil (c := ((s6.1 ++ [c9]), rest_11)) (by first | exact .inl rfl | exact .inr rfl) (.keep (.keep (.keep (.keep (.keep (.drop (.drop (.keep .nil))))))))))) (ds_cons (ρ1 := fun (mixed_12 : Int) => [some (.pl yInt cell_here_p), some (.pl (yLst yInt) sizes_p), some (.ow (cLst yInt) s6.1), some (.pl yInt s6.2), some (.pl yBl digits_3), some (.pl yInt k_5), some (.pl yInt size_7), some (.pl yInt mixed_12)]) (ds_set (i := 7) sc.nd rfl (.inl rfl) (de_mod (de_int1 rfl bt.int (de_add (de_add (de_var (pv 0) rfl) (de_mul (de_c (T := yInt) (a := (7919 : Int)) pe_int (fun _ => rfl)) (de_var (pv 5) rfl))) (de_c (T := yInt) (a := (13 : Int)) pe_int (fun _ => rfl)))) (de_c (T := yInt) (a := (2147483647 : Int)) pe_int (fun _ => rfl)))) (fun (mixed_12 : Int) => ds_cons (ρ1 := fun (mixed_16 : Int) => [some (.pl yInt cell_here_p), some (.pl (yLst yInt) sizes_p), some (.ow (cLst yInt) s6.1), some (.pl yInt s6.2), some (.pl yBl digits_3), some (.pl yInt k_5), some (.pl yInt size_7), some (.pl yInt mixed_16)]) (ds_set (i := 7) sc.nd rfl (.inl rfl) (de_mod (de_int1 rfl bt.int (de_mul (de_var (pv 7) rfl) (de_add (de_var (pv 7) rfl) (de_c (T := yInt) (a := (48271 : Int)) pe_int (fun _ => rfl))))) (de_c (T := yInt) (a := (2147483629 : Int)) pe_int (fun _ => rfl)))) (fun (mixed_16 : Int) => ds_cons (ρ1 := fun (mixed_18 : Int) => [some (.pl yInt cell_here_p), some (.pl (yLst yInt) sizes_p), some (.ow (cLst yInt) s6.1), some (.pl yInt s6.2), some (.pl yBl digits_3), some (.pl yInt k_5), some (.pl yInt size_7), some (.pl yInt mixed_18)]) (ds_set (i := 7) sc.nd rfl (.inl rfl) (de_mod (de_int1 rfl bt.int (de_add (de_mul (de_var (pv 7) rfl) (de_add (de_var (pv 7) rfl) (de_c (T := yInt) (a := (69621 : Int)) pe_int (fun _ => rfl)))) (de_mul (de_c (T := yInt) (a := (31 : Int)) pe_int (fun _ => rfl)) (de_var (pv 5) rfl)))) (de_c (T := yInt) (a := (2147483647 : Int)) pe_int (fun _ => rfl)))) (fun (mixed_18 : Int) => ds_cons (ρ1 := fun (c24 : Int) => [some (.pl yInt cell_here_p), some (.pl (yLst yInt) sizes_p), some (.ow (cLst yInt) (s6.1 ++ [c24])), some (.pl yInt s6.2), some (.pl yBl digits_3), some (.pl yInt k_5), some (.pl yInt size_7), some (.pl yInt mixed_18)]) (ds_append (pv 2) rfl (de_mod (de_int1 rfl bt.int (de_div (de_var (pv 7) rfl) (de_c (T := yInt) (a := (9 : Int)) pe_int (fun _ => rfl)))) (de_var (pv 6) rfl))) (fun (c24 : Int) => ds_nil (c := ((s6.1 ++ [c24]), s6.2)) (by first | exact .inl rfl | exact .inr rfl) (.keep (.keep (.keep (.keep (.keep (.drop (.drop (.drop .nil))))))))))))))))) (fun (s27 : ((List Int) × Int)) => ds_one (ds_retO (c := s27.1) (pv 2) rfl rfl)))))) (by unfold m_draws; simp only [bo, isIn_dec, andok, orok]), fun _ => .inl rfl⟩
def m_board (cell_here_p : Int) (most_p : Int) : R Er (Int × Int) := ((m_draws cell_here_p ([(8 : Int), most_p, most_p, (most_p + (1 : Int)), (most_p + (1 : Int))] : List Int))).bind fun (d_1 : (List Int)) =>
  (((rIx d_1 (0 : Int))).bind fun v2 => R.ok (decide (v2 = (0 : Int)))).bind fun v11 => if v11 then ((((rIx d_1 (3 : Int))).bind fun v3 => ((rIx d_1 (4 : Int))).bind fun v4 => R.ok (v3, v4)).bind fun v5 => R.ok v5) else
  (((((rIx d_1 (1 : Int))).bind fun v6 => R.ok (v6 + (1 : Int))).bind fun v8 => (((rIx d_1 (2 : Int))).bind fun v7 => R.ok (v7 + (1 : Int))).bind fun v9 => R.ok (v8, v9)).bind fun v10 => R.ok v10)
abbrev sp_board (P : Program) (w : World) (K : PySem.W.Frag) : Sp := spD (K := K) EX (tysC yInt (tys1 yInt)) (qP (K := K) (yTup (tysC yInt (tys1 yInt)))) (fun a => m_board a.1 a.2)
theorem sc_board : FnScope ["_law_cell_here", "_law_most", "_law_d"] ["_law_cell_here", "_law_most"] (defScope s_board) := ⟨rfl, rfl, rfl, by decide +kernel, rfl, by decide +kernel, by decide +kernel⟩
theorem ok_board {P : Program} {w : World} {K : PySem.W.Frag} {mg : Str → Option Value} {base : Heap} {f : Addr} {fd : FuncData} (F : FnP K "_law_board" s_board f fd) (c_draws : Cal P w K mg base CX 1 "_law_draws" ["_law_cell_here", "_law_sizes"] (sp_draws P w K)) (bt : Bt mg) : FnOk P w K mg base CX 2 f fd ["_law_cell_here", "_law_most"] (sp_board P w K) := by
  refine fn_ok F sc_board (entC (ent1 rfl)) rfl fun cdv A outer s H E hr a => ?_
  obtain ⟨cell_here_p, most_p⟩ := a
  have sc := sc_board
  exact ⟨_, fun c => .rt (qP (K := K) (yTup (tysC yInt (tys1 yInt))) c), DS.cast (m' := m_board cell_here_p most_p) (ds_cons (ρ1 := fun (d_1 : (List Int)) => [some (.pl yInt cell_here_p), some (.pl yInt most_p), some (.ow (cLst yInt) d_1)]) (ds_setF (i := 2) sc.nd rfl (.inl rfl) (de_callF c_draws.ok (hr.mono (by decide)) rfl c_draws.mg c_draws.kp c_draws.bd passC (da_cons (de_var (pv 0) rfl) (da_one (DE.fpL (de_lst (T := yInt) (dl_cons (de_c (T := yInt) (a := (8 : Int)) pe_int (fun _ => rfl)) (dl_cons (de_var (pv 1) rfl) (dl_cons (de_var (pv 1) rfl) (dl_cons (de_add (de_var (pv 1) rfl) (de_c (T := yInt) (a := (1 : Int)) pe_int (fun _ => rfl))) (dl_cons (de_add (de_var (pv 1) rfl) (de_c (T := yInt) (a := (1 : Int)) pe_int (fun _ => rfl))) (dl_nil)))))))))) (imm_cLst imm_int) (wkN rfl))) (fun (d_1 : (List Int)) => ds_ift (DQ.dt (dq_eqI (de_ixL (de_ownL (pv 2) rfl) (de_c (T := yInt) (a := (0 : Int)) pe_int (fun _ => rfl))) (de_c (T := yInt) (a := (0 : Int)) pe_int (fun _ => rfl)))) (ds_one (ds_ret (f := (fun a => a)) (de_tup (dp_cons (DE.bp (de_ixL (de_ownL (pv 2) rfl) (de_c (T := yInt) (a := (3 : Int)) pe_int (fun _ => rfl))) imm_int) (dp_one (DE.bp (de_ixL (de_ownL (pv 2) rfl) (de_c (T := yInt) (a := (4 : Int)) pe_int (fun _ => rfl))) imm_int)))) (fun _ => rfl))) (fun _ => rfl) (ds_one (ds_ret (f := (fun a => a)) (de_tup (dp_cons (de_add (de_ixL (de_ownL (pv 2) rfl) (de_c (T := yInt) (a := (1 : Int)) pe_int (fun _ => rfl))) (de_c (T := yInt) (a := (1 : Int)) pe_int (fun _ => rfl))) (dp_one (de_add (de_ixL (de_ownL (pv 2) rfl) (de_c (T := yInt) (a := (2 : Int)) pe_int (fun _ => rfl))) (de_c (T := yInt) (a := (1 : Int)) pe_int (fun _ => rfl)))))) (fun _ => rfl))))) (by unfold m_board; simp only [bo, isIn_dec, andok, orok]), fun _ => .inl rfl⟩
def m_moved (corner_p : (Int × Int)) (letter_p : PySem.Str) : R Er (Int × Int) := if (decide (letter_p = ("E" : PySem.Str))) then (R.ok ((corner_p.1 + (1 : Int)), corner_p.2)) else
  (if (decide (letter_p = ("N" : PySem.Str))) then (R.ok (corner_p.1, (corner_p.2 + (1 : Int)))) else
  (R.ok (corner_p.1, (corner_p.2 - (1 : Int)))))
abbrev sp_moved (P : Program) (w : World) (K : PySem.W.Frag) : Sp := spD (K := K) EX (tysC yCn (tys1 yStr)) (qP (K := K) yCn) (fun a => m_moved a.1 a.2)
theorem sc_moved : FnScope ["_law_corner", "_law_letter"] ["_law_corner", "_law_letter"] (defScope s_moved) := ⟨rfl, rfl, rfl, by decide +kernel, rfl, by decide +kernel, by decide +kernel⟩
theorem ok_moved {P : Program} {w : World} {K : PySem.W.Frag} {mg : Str → Option Value} {base : Heap} {f : Addr} {fd : FuncData} (F : FnP K "_law_moved" s_moved f fd) (bt : Bt mg) : FnOk P w K mg base CX 1 f fd ["_law_corner", "_law_letter"] (sp_moved P w K) := by
  refine fn_ok F sc_moved (entC (ent1 rfl)) rfl fun cdv A outer s H E hr a => ?_
  obtain ⟨corner_p, letter_p⟩ := a
  have sc := sc_moved
  exact ⟨_, fun c => .rt (qP (K := K) yCn c), DS.cast (m' := m_moved corner_p letter_p) (ds_ift (DQ.dt (dq_eqS (de_var (pv 1) rfl) (de_c (T := yStr) (a := ("E" : PySem.Str)) pe_str (fun _ => ⟨rfl, by decide +kernel⟩)))) (ds_one (ds_ret (f := (fun a => a)) (de_tup (dp_cons (de_add (de_nth (de_var (pv 0) rfl) nth_0) (de_c (T := yInt) (a := (1 : Int)) pe_int (fun _ => rfl))) (dp_one (de_nth (de_var (pv 0) rfl) (nth_s nth_1))))) (fun _ => rfl))) (fun _ => rfl) (ds_ift (DQ.dt (dq_eqS (de_var (pv 1) rfl) (de_c (T := yStr) (a := ("N" : PySem.Str)) pe_str (fun _ => ⟨rfl, by decide +kernel⟩)))) (ds_one (ds_ret (f := (fun a => a)) (de_tup (dp_cons (de_nth (de_var (pv 0) rfl) nth_0) (dp_one (de_add (de_nth (de_var (pv 0) rfl) (nth_s nth_1)) (de_c (T := yInt) (a := (1 : Int)) pe_int (fun _ => rfl)))))) (fun _ => rfl))) (fun _ => rfl) (ds_one (ds_ret (f := (fun a => a)) (de_tup (dp_cons (de_nth (de_var (pv 0) rfl) nth_0) (dp_one (de_sub (de_nth (de_var (pv 0) rfl) (nth_s nth_1)) (de_c (T := yInt) (a := (1 : Int)) pe_int (fun _ => rfl)))))) (fun _ => rfl))))) (by unfold m_moved; simp only [bo, isIn_dec, andok, orok]), fun _ => .inl rfl⟩
def m_on_board (board_here_p : (Int × Int)) (corner_p : (Int × Int)) : R Er Bool := (((if decide ((0 : Int) ≤ corner_p.1) then (R.ok (decide (corner_p.1 ≤ board_here_p.1))) else R.ok false)).bind fun v1 => (if v1 then (if decide ((0 : Int) ≤ corner_p.2) then (R.ok (decide (corner_p.2 ≤ board_here_p.2))) else R.ok false) else R.ok false)).bind fun v2 => R.ok v2
abbrev sp_on_board (P : Program) (w : World) (K : PySem.W.Frag) : Sp := spD (K := K) EX (tysC yCn (tys1 yCn)) (qP (K := K) yBl) (fun a => m_on_board a.1 a.2)
theorem sc_on_board : FnScope ["_law_board_here", "_law_corner"] ["_law_board_here", "_law_corner"] (defScope s_on_board) := ⟨rfl, rfl, rfl, by decide +kernel, rfl, by decide +kernel, by decide +kernel⟩
theorem ok_on_board {P : Program} {w : World} {K : PySem.W.Frag} {mg : Str → Option Value} {base : Heap} {f : Addr} {fd : FuncData} (F : FnP K "_law_on_board" s_on_board f fd) (bt : Bt mg) : FnOk P w K mg base CX 1 f fd ["_law_board_here", "_law_corner"] (sp_on_board P w K) := by
  refine fn_ok F sc_on_board (entC (ent1 rfl)) rfl fun cdv A outer s H E hr a => ?_
  obtain ⟨board_here_p, corner_p⟩ := a
  have sc := sc_on_board
  exact ⟨_, fun c => .rt (qP (K := K) yBl c), DS.cast (m' := m_on_board board_here_p corner_p) (ds_one (ds_ret (f := (fun a => a)) (de_and (DQ.de (dq_chain op_le op_le (de_c (T := yInt) (a := (0 : Int)) pe_int (fun _ => rfl)) (de_nth (de_var (pv 1) rfl) nth_0) (de_nth (de_var (pv 0) rfl) nth_0))) (de_one (DQ.de (dq_chain op_le op_le (de_c (T := yInt) (a := (0 : Int)) pe_int (fun _ => rfl)) (de_nth (de_var (pv 1) rfl) (nth_s nth_1)) (de_nth (de_var (pv 0) rfl) (nth_s nth_1)))))) (fun _ => rfl))) (by unfold m_on_board; simp only [bo, isIn_dec, andok, orok]), fun _ => .inl rfl⟩
def m_path (board_here_p : (Int × Int)) (cell_here_p : Int) : R Er (List (Int × Int)) := (((((rRepL ([(2 : Int)] : List Int) (16 : Int))).bind fun v2 => (rCatL ([(board_here_p.1 + (1 : Int)), (board_here_p.2 + (1 : Int)), (2 : Int), (17 : Int)] : List Int) v2)).bind fun v3 => R.ok (cell_here_p, v3)).bind fun v4 => (m_draws v4.1 v4.2)).bind fun (d_1 : (List Int)) =>
  ((((rIx d_1 (0 : Int))).bind fun v6 => ((rIx d_1 (1 : Int))).bind fun v7 => R.ok (v6, v7)).bind fun v8 => R.ok (v8 :: ([] : List (Int × Int)))).bind fun (row_5 : (List (Int × Int))) =>
  ((((rIx d_1 (3 : Int))).bind fun v9 => (rRng 0 v9)).bind fun v24 => forS (fun (k_10 : Int) (s11 : (List (Int × Int))) => (R.ok ("E" : PySem.Str)).bind fun (letter_12 : PySem.Str) =>
  ((((rIx d_1 ((4 : Int) + k_10))).bind fun v13 => R.ok (decide (v13 = (1 : Int)))).bind fun v17 => if v17 then ((((rIx d_1 (2 : Int))).bind fun v16 => (rIx ([("N" : PySem.Str), ("S" : PySem.Str)] : List PySem.Str) v16)).bind fun (letter_15 : PySem.Str) =>
  R.ok letter_15) else
  (R.ok letter_12)).bind fun (s14 : PySem.Str) =>
  ((((rIx s11 (-(1 : Int)))).bind fun v19 => R.ok (v19, s14)).bind fun v20 => (m_moved v20.1 v20.2)).bind fun (corner_18 : (Int × Int)) =>
  ((m_on_board board_here_p corner_18)).bind fun v23 => if v23 then (((rApp s11 corner_18)).bind fun (c22 : (Int × Int)) =>
  R.ok (s11 ++ [c22])) else
  (R.ok s11)) v24 row_5).bind fun (s25 : (List (Int × Int))) =>
  ((((rIx s25 (-(1 : Int)))).bind fun v26 => ((rIx s25 (0 : Int))).bind fun v27 => R.ok (ltC v26 v27)).bind fun v30 => if v30 then ((R.ok (List.reverse s25)).bind fun (row_29 : (List (Int × Int))) =>
  R.ok row_29) else
  (R.ok s25)).bind fun (s28 : (List (Int × Int))) =>
  R.ok s28
abbrev sp_path (P : Program) (w : World) (K : PySem.W.Frag) : Sp := spD (K := K) EX (tysC yCn (tys1 yInt)) (qP (K := K) (yTupOf (yTup (tysC yInt (tys1 yInt))))) (fun a => m_path a.1 a.2)
theorem sc_path : FnScope ["_law_board_here", "_law_cell_here", "_law_d", "_law_row", "_law_k", "_law_letter", "_law_corner"] ["_law_board_here", "_law_cell_here"] (defScope s_path) := ⟨rfl, rfl, rfl, by decide +kernel, rfl, by decide +kernel, by decide +kernel⟩
theorem ok_path {P : Program} {w : World} {K : PySem.W.Frag} {mg : Str → Option Value} {base : Heap} {f : Addr} {fd : FuncData} (F : FnP K "_law_path" s_path f fd) (c_draws : Cal P w K mg base CX 1 "_law_draws" ["_law_cell_here", "_law_sizes"] (sp_draws P w K)) (c_moved : Cal P w K mg base CX 1 "_law_moved" ["_law_corner", "_law_letter"] (sp_moved P w K)) (c_on_board : Cal P w K mg base CX 1 "_law_on_board" ["_law_board_here", "_law_corner"] (sp_on_board P w K)) (bt : Bt mg) : FnOk P w K mg base CX 2 f fd ["_law_board_here", "_law_cell_here"] (sp_path P w K) := by
  refine fn_ok F sc_path (entC (ent1 rfl)) rfl fun cdv A outer s H E hr a => ?_
  obtain ⟨board_here_p, cell_here_p⟩ := a
  have sc := sc_path
  exact ⟨_, fun c => .rt (qP (K := K) (yTupOf (yTup (tysC yInt (tys1 yInt)))) c), DS.cast (m' := m_path board_here_p cell_here_p) (ds_cons (ρ1 := fun (d_1 : (List Int)) => [some (.pl yCn board_here_p), some (.pl yInt cell_here_p), some (.ow (cLst yInt) d_1), none, none, none, none]) (ds_setF (i := 2) sc.nd rfl (.inl rfl) (de_callF c_draws.ok (hr.mono (by decide)) rfl c_draws.mg c_draws.kp c_draws.bd passC (da_cons (de_var (pv 1) rfl) (da_one (DE.fpL (de_catL imm_int (DE.fpL (de_lst (T := yInt) (dl_cons (de_add (de_nth (de_var (pv 0) rfl) nth_0) (de_c (T := yInt) (a := (1 : Int)) pe_int (fun _ => rfl))) (dl_cons (de_add (de_nth (de_var (pv 0) rfl) (nth_s nth_1)) (de_c (T := yInt) (a := (1 : Int)) pe_int (fun _ => rfl))) (dl_cons (de_c (T := yInt) (a := (2 : Int)) pe_int (fun _ => rfl)) (dl_cons (de_c (T := yInt) (a := (17 : Int)) pe_int (fun _ => rfl)) (dl_nil))))))) (DE.fpL (de_rep imm_int (DE.fpL (de_lst (T := yInt) (dl_cons (de_c (T := yInt) (a := (2 : Int)) pe_int (fun _ => rfl)) (dl_nil)))) (de_c (T := yInt) (a := (16 : Int)) pe_int (fun _ => rfl)))))))) (imm_cLst imm_int) (wkN rfl))) (fun (d_1 : (List Int)) => ds_cons (ρ1 := fun (row_5 : (List (Int × Int))) => [some (.pl yCn board_here_p), some (.pl yInt cell_here_p), some (.ow (cLst yInt) d_1), some (.ow (cLst (yTup (tysC yInt (tys1 yInt)))) row_5), none, none, none]) (ds_setF (i := 3) sc.nd rfl (.inl rfl) (de_lst (T := (yTup (tysC yInt (tys1 yInt)))) (dl_cons (de_tup (dp_cons (DE.bp (de_ixL (de_ownL (pv 2) rfl) (de_c (T := yInt) (a := (0 : Int)) pe_int (fun _ => rfl))) imm_int) (dp_one (DE.bp (de_ixL (de_ownL (pv 2) rfl) (de_c (T := yInt) (a := (1 : Int)) pe_int (fun _ => rfl))) imm_int)))) (dl_nil)))) (fun (row_5 : (List (Int × Int))) => ds_cons (ρ1 := fun (s25 : (List (Int × Int))) => [some (.pl yCn board_here_p), some (.pl yInt cell_here_p), some (.ow (cLst yInt) d_1), some (.ow (cLst (yTup (tysC yInt (tys1 yInt)))) s25), none, none, none]) (ds_forS (eH := fun (s11 : (List (Int × Int))) => [some (.pl yCn board_here_p), some (.pl yInt cell_here_p), some (.ow (cLst yInt) d_1), some (.ow (cLst (yTup (tysC yInt (tys1 yInt)))) s11), none, none, none]) (eB := fun (s11 : (List (Int × Int))) (k_10 : Int) => [some (.pl yCn board_here_p), some (.pl yInt cell_here_p), some (.ow (cLst yInt) d_1), some (.ow (cLst (yTup (tysC yInt (tys1 yInt)))) s11), some (.pl yInt k_10), none, none]) (a0 := row_5) (passes_of rfl) rfl (di_range1 rfl bt.range (de_ixL (de_ownL (pv 2) rfl) (de_c (T := yInt) (a := (3 : Int)) pe_int (fun _ => rfl)))) (.keep (.keep (.keep (.keep (.keep (.keep (.keep .nil))))))) (fun (s11 : (List (Int × Int))) => dg_name (pg_name (i := 4) sc.nd rfl (.inl rfl))) (fun (s11 : (List (Int × Int))) (k_10 : Int) => ds_cons (ρ1 := fun (letter_12 : PySem.Str) => [some (.pl yCn board_here_p), some (.pl yInt cell_here_p), some (.ow (cLst yInt) d_1), some (.ow (cLst (yTup (tysC yInt (tys1 yInt)))) s11), some (.pl yInt k_10), some (.pl yStr letter_12), none]) (ds_set (i := 5) sc.nd rfl (.inl rfl) (de_c (T := yStr) (a := ("E" : PySem.Str)) pe_str (fun _ => ⟨rfl, by decide +kernel⟩))) (fun (letter_12 : PySem.Str) => ds_cons (ρ1 := fun (s14 : PySem.Str) => [some (.pl yCn board_here_p), some (.pl yInt cell_here_p), some (.ow (cLst yInt) d_1), some (.ow (cLst (yTup (tysC yInt (tys1 yInt)))) s11), some (.pl yInt k_10), some (.pl yStr s14), none]) (ds_if1 (DQ.dt (dq_eqI (de_ixL (de_ownL (pv 2) rfl) (de_add (de_c (T := yInt) (a := (4 : Int)) pe_int (fun _ => rfl)) (de_var (pv 4) rfl))) (de_c (T := yInt) (a := (1 : Int)) pe_int (fun _ => rfl)))) (ds_cons (ρ1 := fun (letter_15 : PySem.Str) => [some (.pl yCn board_here_p), some (.pl yInt cell_here_p), some (.ow (cLst yInt) d_1), some (.ow (cLst (yTup (tysC yInt (tys1 yInt)))) s11), some (.pl yInt k_10), some (.pl yStr letter_15), none]) (ds_set (i := 5) sc.nd rfl (.inl rfl) (de_ixL (DE.fpL (de_lst (T := yStr) (dl_cons (de_c (T := yStr) (a := ("N" : PySem.Str)) pe_str (fun _ => ⟨rfl, by decide +kernel⟩)) (dl_cons (de_c (T := yStr) (a := ("S" : PySem.Str)) pe_str (fun _ => ⟨rfl, by decide +kernel⟩)) (dl_nil))))) (de_ixL (de_ownL (pv 2) rfl) (de_c (T := yInt) (a := (2 : Int)) pe_int (fun _ => rfl))))) (fun (letter_15 : PySem.Str) => ds_nil (c := letter_15) (by first | exact .inl rfl | exact .inr rfl) (.keep (.keep (.keep (.keep (.keep (.keep (.keep .nil))))))))) (ds_nil (c := letter_12) (by first | exact .inl rfl | exact .inr rfl) (.keep (.keep (.keep (.keep (.keep (.keep (.keep .nil))))))))) (fun (s14 : PySem.Str) => ds_cons (ρ1 := fun (corner_18 : (Int × Int)) => [some (.pl yCn board_here_p), some (.pl yInt cell_here_p), some (.ow (cLst yInt) d_1), some (.ow (cLst (yTup (tysC yInt (tys1 yInt)))) s11), some (.pl yInt k_10), some (.pl yStr s14), some (.pl yCn corner_18)]) (ds_set (i := 6) sc.nd rfl (.inl rfl) (de_call c_moved.ok (hr.mono (by decide)) rfl c_moved.mg c_moved.kp c_moved.bd passC (da_cons (de_ixL (de_ownL (pv 3) rfl) (de_neg (de_c (T := yInt) (a := (1 : Int)) pe_int (fun _ => rfl)))) (da_one (de_var (pv 5) rfl))) (imm_tup (imm_C imm_int (imm_1 imm_int))) (wkN rfl))) (fun (corner_18 : (Int × Int)) => ds_one (ds_if1 (dt_val (de_call c_on_board.ok (hr.mono (by decide)) rfl c_on_board.mg c_on_board.kp c_on_board.bd passC (da_cons (de_var (pv 0) rfl) (da_one (de_var (pv 6) rfl))) imm_bl (wkN rfl))) (ds_cons (ρ1 := fun (c22 : (Int × Int)) => [some (.pl yCn board_here_p), some (.pl yInt cell_here_p), some (.ow (cLst yInt) d_1), some (.ow (cLst (yTup (tysC yInt (tys1 yInt)))) (s11 ++ [c22])), some (.pl yInt k_10), some (.pl yStr s14), some (.pl yCn corner_18)]) (ds_append (pv 3) rfl (de_var (pv 6) rfl)) (fun (c22 : (Int × Int)) => ds_nil (c := (s11 ++ [c22])) (by first | exact .inl rfl | exact .inr rfl) (.keep (.keep (.keep (.keep (.drop (.drop (.drop .nil))))))))) (ds_nil (c := s11) (by first | exact .inl rfl | exact .inr rfl) (.keep (.keep (.keep (.keep (.drop (.drop (.drop .nil)))))))))))))) (fun (s25 : (List (Int × Int))) => ds_cons (ρ1 := fun (s28 : (List (Int × Int))) => [some (.pl yCn board_here_p), some (.pl yInt cell_here_p), some (.ow (cLst yInt) d_1), some (.ow (cLst (yTup (tysC yInt (tys1 yInt)))) s28), none, none, none]) (ds_if1 (DQ.dt (dq_ltC (u0 hr) (de_ixL (de_ownL (pv 3) rfl) (de_neg (de_c (T := yInt) (a := (1 : Int)) pe_int (fun _ => rfl)))) (de_ixL (de_ownL (pv 3) rfl) (de_c (T := yInt) (a := (0 : Int)) pe_int (fun _ => rfl))))) (ds_cons (ρ1 := fun (row_29 : (List (Int × Int))) => [some (.pl yCn board_here_p), some (.pl yInt cell_here_p), some (.ow (cLst yInt) d_1), some (.ow (cLst (yTup (tysC yInt (tys1 yInt)))) row_29), none, none, none]) (ds_setF (i := 3) sc.nd rfl (.inl rfl) (de_rev (imm_tup (imm_C imm_int (imm_1 imm_int))) (de_ownL (pv 3) rfl))) (fun (row_29 : (List (Int × Int))) => ds_nil (c := row_29) (by first | exact .inl rfl | exact .inr rfl) (.keep (.keep (.keep (.keep (.keep (.keep (.keep .nil))))))))) (ds_nil (c := s25) (by first | exact .inl rfl | exact .inr rfl) (.keep (.keep (.keep (.keep (.keep (.keep (.keep .nil))))))))) (fun (s28 : (List (Int × Int))) => ds_one (ds_ret (f := (fun a => a)) (de_tupleL (imm_tup (imm_C imm_int (imm_1 imm_int))) rfl bt.tuple (de_ownL (pv 3) rfl)) (fun _ => rfl))))))) (by unfold m_path; simp only [bo, isIn_dec, andok, orok]), fun _ => .inl rfl⟩
def m_long_path (board_here_p : (Int × Int)) (half_p : PySem.Str) (cell_here_p : Int) : R Er (List (Int × Int)) := (R.ok ("N" : PySem.Str)).bind fun (steep_1 : PySem.Str) =>
  (R.ok ([((0 : Int), (0 : Int))] : List (Int × Int))).bind fun (row_2 : (List (Int × Int))) =>
  (if (decide (half_p = ("falling" : PySem.Str))) then ((R.ok ("S" : PySem.Str)).bind fun (steep_4 : PySem.Str) =>
  (R.ok ([((0 : Int), board_here_p.2)] : List (Int × Int))).bind fun (row_5 : (List (Int × Int))) =>
  R.ok (steep_4, row_5)) else
  (R.ok (steep_1, row_2))).bind fun (s3 : (PySem.Str × (List (Int × Int)))) =>
  (((((rRepL ([(2 : Int)] : List Int) (16 : Int))).bind fun v6 => R.ok (cell_here_p, v6)).bind fun v7 => (m_draws v7.1 v7.2)).bind fun v17 => forS (fun (draw_8 : Int) (s9 : (List (Int × Int))) => ((((rIx s9 (-(1 : Int)))).bind fun v11 => ((rIx ([("E" : PySem.Str), s3.1] : List PySem.Str) draw_8)).bind fun v12 => R.ok (v11, v12)).bind fun v13 => (m_moved v13.1 v13.2)).bind fun (corner_10 : (Int × Int)) =>
  ((m_on_board board_here_p corner_10)).bind fun v16 => if v16 then (((rApp s9 corner_10)).bind fun (c15 : (Int × Int)) =>
  R.ok (s9 ++ [c15])) else
  (R.ok s9)) v17 s3.2).bind fun (s18 : (List (Int × Int))) =>
  ((((rIx s18 (-(1 : Int)))).bind fun v19 => ((rIx s18 (0 : Int))).bind fun v20 => R.ok (ltC v19 v20)).bind fun v23 => if v23 then ((R.ok (List.reverse s18)).bind fun (row_22 : (List (Int × Int))) =>
  R.ok row_22) else
  (R.ok s18)).bind fun (s21 : (List (Int × Int))) =>
  R.ok s21
abbrev sp_long_path (P : Program) (w : World) (K : PySem.W.Frag) : Sp := spD (K := K) EX (tysC yCn (tysC yStr (tys1 yInt))) (qP (K := K) (yTupOf yCn)) (fun a => m_long_path a.1 a.2.1 a.2.2)
theorem sc_long_path : FnScope ["_law_board_here", "_law_half", "_law_cell_here", "_law_steep", "_law_row", "_law_draw", "_law_corner"] ["_law_board_here", "_law_half", "_law_cell_here"] (defScope s_long_path) := ⟨rfl, rfl, rfl, by decide +kernel, rfl, by decide +kernel, by decide +kernel⟩
theorem ok_long_path {P : Program} {w : World} {K : PySem.W.Frag} {mg : Str → Option Value} {base : Heap} {f : Addr} {fd : FuncData} (F : FnP K "_law_long_path" s_long_path f fd) (c_draws : Cal P w K mg base CX 1 "_law_draws" ["_law_cell_here", "_law_sizes"] (sp_draws P w K)) (c_moved : Cal P w K mg base CX 1 "_law_moved" ["_law_corner", "_law_letter"] (sp_moved P w K)) (c_on_board : Cal P w K mg base CX 1 "_law_on_board" ["_law_board_here", "_law_corner"] (sp_on_board P w K)) (bt : Bt mg) : FnOk P w K mg base CX 2 f fd ["_law_board_here", "_law_half", "_law_cell_here"] (sp_long_path P w K) := by
  refine fn_ok F sc_long_path (entC (entC (ent1 rfl))) rfl fun cdv A outer s H E hr a => ?_
  obtain ⟨board_here_p, half_p, cell_here_p⟩ := a
  have sc := sc_long_path
  exact ⟨_, fun c => .rt (qP (K := K) (yTupOf yCn) c), DS.cast (m' := m_long_path board_here_p half_p cell_here_p) (ds_cons (ρ1 := fun (steep_1 : PySem.Str) => [some (.pl yCn board_here_p), some (.pl yStr half_p), some (.pl yInt cell_here_p), some (.pl yStr steep_1), none, none, none]) (ds_set (i := 3) sc.nd rfl (.inl rfl) (de_c (T := yStr) (a := ("N" : PySem.Str)) pe_str (fun _ => ⟨rfl, by decide +kernel⟩))) (fun (steep_1 : PySem.Str) => ds_cons (ρ1 := fun (row_2 : (List (Int × Int))) => [some (.pl yCn board_here_p), some (.pl yStr half_p), some (.pl yInt cell_here_p), some (.pl yStr steep_1), some (.ow (cLst yCn) row_2), none, none]) (ds_setF (i := 4) sc.nd rfl (.inl rfl) (de_lst (T := yCn) (dl_cons (de_tup (dp_cons (de_c (T := yInt) (a := (0 : Int)) pe_int (fun _ => rfl)) (dp_one (de_c (T := yInt) (a := (0 : Int)) pe_int (fun _ => rfl))))) (dl_nil)))) (fun (row_2 : (List (Int × Int))) => ds_cons (ρ1 := fun (s3 : (PySem.Str × (List (Int × Int)))) => [some (.pl yCn board_here_p), some (.pl yStr half_p), some (.pl yInt cell_here_p), some (.pl yStr s3.1), some (.ow (cLst yCn) s3.2), none, none]) (ds_if1 (DQ.dt (dq_eqS (de_var (pv 1) rfl) (de_c (T := yStr) (a := ("falling" : PySem.Str)) pe_str (fun _ => ⟨rfl, by decide +kernel⟩)))) (ds_cons (ρ1 := fun (steep_4 : PySem.Str) => [some (.pl yCn board_here_p), some (.pl yStr half_p), some (.pl yInt cell_here_p), some (.pl yStr steep_4), some (.ow (cLst yCn) row_2), none, none]) (ds_set (i := 3) sc.nd rfl (.inl rfl) (de_c (T := yStr) (a := ("S" : PySem.Str)) pe_str (fun _ => ⟨rfl, by decide +kernel⟩))) (fun (steep_4 : PySem.Str) => ds_cons (ρ1 := fun (row_5 : (List (Int × Int))) => [some (.pl yCn board_here_p), some (.pl yStr half_p), some (.pl yInt cell_here_p), some (.pl yStr steep_4), some (.ow (cLst yCn) row_5), none, none]) (ds_setF (i := 4) sc.nd rfl (.inl rfl) (de_lst (T := yCn) (dl_cons (de_tup (dp_cons (de_c (T := yInt) (a := (0 : Int)) pe_int (fun _ => rfl)) (dp_one (de_nth (de_var (pv 0) rfl) (nth_s nth_1))))) (dl_nil)))) (fun (row_5 : (List (Int × Int))) => ds_nil (c := (steep_4, row_5)) (by first | exact .inl rfl | exact .inr rfl) (.keep (.keep (.keep (.keep (.keep (.keep (.keep .nil)))))))))) (ds_nil (c := (steep_1, row_2)) (by first | exact .inl rfl | exact .inr rfl) (.keep (.keep (.keep (.keep (.keep (.keep (.keep .nil))))))))) (fun (s3 : (PySem.Str × (List (Int × Int)))) => ds_cons (ρ1 := fun (s18 : (List (Int × Int))) => [some (.pl yCn board_here_p), some (.pl yStr half_p), some (.pl yInt cell_here_p), some (.pl yStr s3.1), some (.ow (cLst yCn) s18), none, none]) (ds_forS (eH := fun (s9 : (List (Int × Int))) => [some (.pl yCn board_here_p), some (.pl yStr half_p), some (.pl yInt cell_here_p), some (.pl yStr s3.1), some (.ow (cLst yCn) s9), none, none]) (eB := fun (s9 : (List (Int × Int))) (draw_8 : Int) => [some (.pl yCn board_here_p), some (.pl yStr half_p), some (.pl yInt cell_here_p), some (.pl yStr s3.1), some (.ow (cLst yCn) s9), some (.pl yInt draw_8), none]) (a0 := s3.2) (passes_of rfl) rfl (di_list (DE.fpL (de_callF c_draws.ok (hr.mono (by decide)) rfl c_draws.mg c_draws.kp c_draws.bd passC (da_cons (de_var (pv 2) rfl) (da_one (DE.fpL (de_rep imm_int (DE.fpL (de_lst (T := yInt) (dl_cons (de_c (T := yInt) (a := (2 : Int)) pe_int (fun _ => rfl)) (dl_nil)))) (de_c (T := yInt) (a := (16 : Int)) pe_int (fun _ => rfl)))))) (imm_cLst imm_int) (wkN rfl)))) (.keep (.keep (.keep (.keep (.keep (.keep (.keep .nil))))))) (fun (s9 : (List (Int × Int))) => dg_name (pg_name (i := 5) sc.nd rfl (.inl rfl))) (fun (s9 : (List (Int × Int))) (draw_8 : Int) => ds_cons (ρ1 := fun (corner_10 : (Int × Int)) => [some (.pl yCn board_here_p), some (.pl yStr half_p), some (.pl yInt cell_here_p), some (.pl yStr s3.1), some (.ow (cLst yCn) s9), some (.pl yInt draw_8), some (.pl yCn corner_10)]) (ds_set (i := 6) sc.nd rfl (.inl rfl) (de_call c_moved.ok (hr.mono (by decide)) rfl c_moved.mg c_moved.kp c_moved.bd passC (da_cons (de_ixL (de_ownL (pv 4) rfl) (de_neg (de_c (T := yInt) (a := (1 : Int)) pe_int (fun _ => rfl)))) (da_one (de_ixL (DE.fpL (de_lst (T := yStr) (dl_cons (de_c (T := yStr) (a := ("E" : PySem.Str)) pe_str (fun _ => ⟨rfl, by decide +kernel⟩)) (dl_cons (de_var (pv 3) rfl) (dl_nil))))) (de_var (pv 5) rfl)))) (imm_tup (imm_C imm_int (imm_1 imm_int))) (wkN rfl))) (fun (corner_10 : (Int × Int)) => ds_one (ds_if1 (dt_val (de_call c_on_board.ok (hr.mono (by decide)) rfl c_on_board.mg c_on_board.kp c_on_board.bd passC (da_cons (de_var (pv 0) rfl) (da_one (de_var (pv 6) rfl))) imm_bl (wkN rfl))) (ds_cons (ρ1 := fun (c15 : (Int × Int)) => [some (.pl yCn board_here_p), some (.pl yStr half_p), some (.pl yInt cell_here_p), some (.pl yStr s3.1), some (.ow (cLst yCn) (s9 ++ [c15])), some (.pl yInt draw_8), some (.pl yCn corner_10)]) (ds_append (pv 4) rfl (de_var (pv 6) rfl)) (fun (c15 : (Int × Int)) => ds_nil (c := (s9 ++ [c15])) (by first | exact .inl rfl | exact .inr rfl) (.keep (.keep (.keep (.keep (.keep (.drop (.drop .nil))))))))) (ds_nil (c := s9) (by first | exact .inl rfl | exact .inr rfl) (.keep (.keep (.keep (.keep (.keep (.drop (.drop .nil)))))))))))) (fun (s18 : (List (Int × Int))) => ds_cons (ρ1 := fun (s21 : (List (Int × Int))) => [some (.pl yCn board_here_p), some (.pl yStr half_p), some (.pl yInt cell_here_p), some (.pl yStr s3.1), some (.ow (cLst yCn) s21), none, none]) (ds_if1 (DQ.dt (dq_ltC (u0 hr) (de_ixL (de_ownL (pv 4) rfl) (de_neg (de_c (T := yInt) (a := (1 : Int)) pe_int (fun _ => rfl)))) (de_ixL (de_ownL (pv 4) rfl) (de_c (T := yInt) (a := (0 : Int)) pe_int (fun _ => rfl))))) (ds_cons (ρ1 := fun (row_22 : (List (Int × Int))) => [some (.pl yCn board_here_p), some (.pl yStr half_p), some (.pl yInt cell_here_p), some (.pl yStr s3.1), some (.ow (cLst yCn) row_22), none, none]) (ds_setF (i := 4) sc.nd rfl (.inl rfl) (de_rev (imm_tup (imm_C imm_int (imm_1 imm_int))) (de_ownL (pv 4) rfl))) (fun (row_22 : (List (Int × Int))) => ds_nil (c := row_22) (by first | exact .inl rfl | exact .inr rfl) (.keep (.keep (.keep (.keep (.keep (.keep (.keep .nil))))))))) (ds_nil (c := s18) (by first | exact .inl rfl | exact .inr rfl) (.keep (.keep (.keep (.keep (.keep (.keep (.keep .nil))))))))) (fun (s21 : (List (Int × Int))) => ds_one (ds_ret (f := (fun a => a)) (de_tupleL (imm_tup (imm_C imm_int (imm_1 imm_int))) rfl bt.tuple (de_ownL (pv 4) rfl)) (fun _ => rfl)))))))) (by unfold m_long_path; simp only [bo, isIn_dec, andok, orok]), fun _ => .inl rfl⟩
def m_part (path_here_p : (List (Int × Int))) (i_p : Int) (j_p : Int) : R Er (List (Int × Int)) := (R.ok (cut path_here_p (some (if j_p < i_p then j_p else i_p)) (some ((if j_p > i_p then j_p else i_p) + (1 : Int))))).bind fun (part_here_1 : (List (Int × Int))) =>
  ((((rIx part_here_1 (-(1 : Int)))).bind fun v2 => ((rIx part_here_1 (0 : Int))).bind fun v3 => R.ok (ltC v2 v3)).bind fun v6 => if v6 then ((R.ok (List.reverse part_here_1)).bind fun (part_here_5 : (List (Int × Int))) =>
  R.ok part_here_5) else
  (R.ok part_here_1)).bind fun (s4 : (List (Int × Int))) =>
  R.ok s4
abbrev sp_part (P : Program) (w : World) (K : PySem.W.Frag) : Sp := spD (K := K) EX (tysC (yTupOf yCn) (tysC yInt (tys1 yInt))) (qP (K := K) (yTupOf yCn)) (fun a => m_part a.1 a.2.1 a.2.2)
theorem sc_part : FnScope ["_law_path_here", "_law_i", "_law_j", "_law_part_here"] ["_law_path_here", "_law_i", "_law_j"] (defScope s_part) := ⟨rfl, rfl, rfl, by decide +kernel, rfl, by decide +kernel, by decide +kernel⟩
theorem ok_part {P : Program} {w : World} {K : PySem.W.Frag} {mg : Str → Option Value} {base : Heap} {f : Addr} {fd : FuncData} (F : FnP K "_law_part" s_part f fd) (bt : Bt mg) : FnOk P w K mg base CX 1 f fd ["_law_path_here", "_law_i", "_law_j"] (sp_part P w K) := by
  refine fn_ok F sc_part (entC (entC (ent1 rfl))) rfl fun cdv A outer s H E hr a => ?_
  obtain ⟨path_here_p, i_p, j_p⟩ := a
  have sc := sc_part
  exact ⟨_, fun c => .rt (qP (K := K) (yTupOf yCn) c), DS.cast (m' := m_part path_here_p i_p j_p) (ds_cons (ρ1 := fun (part_here_1 : (List (Int × Int))) => [some (.pl (yTupOf yCn) path_here_p), some (.pl yInt i_p), some (.pl yInt j_p), some (.pl (yTupOf yCn) part_here_1)]) (ds_set (i := 3) sc.nd rfl (.inl rfl) (de_sliceT (imm_tup (imm_C imm_int (imm_1 imm_int))) (de_var (pv 0) rfl) (do_some (de_min2 rfl rfl bt.min (de_var (pv 1) rfl) (de_var (pv 2) rfl))) (do_some (de_add (de_max2 rfl rfl bt.max (de_var (pv 1) rfl) (de_var (pv 2) rfl)) (de_c (T := yInt) (a := (1 : Int)) pe_int (fun _ => rfl)))))) (fun (part_here_1 : (List (Int × Int))) => ds_cons (ρ1 := fun (s4 : (List (Int × Int))) => [some (.pl (yTupOf yCn) path_here_p), some (.pl yInt i_p), some (.pl yInt j_p), some (.pl (yTupOf yCn) s4)]) (ds_if1 (DQ.dt (dq_ltC (u0 hr) (de_ixT (de_var (pv 3) rfl) (de_neg (de_c (T := yInt) (a := (1 : Int)) pe_int (fun _ => rfl)))) (de_ixT (de_var (pv 3) rfl) (de_c (T := yInt) (a := (0 : Int)) pe_int (fun _ => rfl))))) (ds_cons (ρ1 := fun (part_here_5 : (List (Int × Int))) => [some (.pl (yTupOf yCn) path_here_p), some (.pl yInt i_p), some (.pl yInt j_p), some (.pl (yTupOf yCn) part_here_5)]) (ds_set (i := 3) sc.nd rfl (.inl rfl) (de_revT (imm_tup (imm_C imm_int (imm_1 imm_int))) (de_var (pv 3) rfl))) (fun (part_here_5 : (List (Int × Int))) => ds_nil (c := part_here_5) (by first | exact .inl rfl | exact .inr rfl) (.keep (.keep (.keep (.keep .nil)))))) (ds_nil (c := part_here_1) (by first | exact .inl rfl | exact .inr rfl) (.keep (.keep (.keep (.keep .nil)))))) (fun (s4 : (List (Int × Int))) => ds_one (ds_ret (f := (fun a => a)) (de_var (pv 3) rfl) (fun _ => rfl))))) (by unfold m_part; simp only [bo, isIn_dec, andok, orok]), fun _ => .inl rfl⟩
def m_turned (path_here_p : (List (Int × Int))) : R Er (List (Int × Int)) := ((rIx path_here_p (0 : Int))).bind fun (a_1 : (Int × Int)) =>
  ((rIx path_here_p (-(1 : Int)))).bind fun (b_2 : (Int × Int)) =>
  ((lcR (fun (corner_3 : (Int × Int)) => (R.ok true)) (fun (corner_3 : (Int × Int)) => (R.ok (((a_1.1 + b_2.1) - corner_3.1), ((a_1.2 + b_2.2) - corner_3.2)))) (List.reverse path_here_p))).bind fun v4 => R.ok v4
abbrev sp_turned (P : Program) (w : World) (K : PySem.W.Frag) : Sp := spD (K := K) EX (tys1 (yTupOf yCn)) (qP (K := K) (yTupOf yCn)) (fun a => m_turned a)
theorem sc_turned : FnScope ["_law_path_here", "_law_a", "_law_b", "_law_corner"] ["_law_path_here"] (defScope s_turned) := ⟨rfl, rfl, rfl, by decide +kernel, rfl, by decide +kernel, by decide +kernel⟩
theorem ok_turned {P : Program} {w : World} {K : PySem.W.Frag} {mg : Str → Option Value} {base : Heap} {f : Addr} {fd : FuncData} (F : FnP K "_law_turned" s_turned f fd) (bt : Bt mg) : FnOk P w K mg base CX 1 f fd ["_law_path_here"] (sp_turned P w K) := by
  refine fn_ok F sc_turned (ent1 rfl) rfl fun cdv A outer s H E hr path_here_p => ?_
  have sc := sc_turned
  exact ⟨_, fun c => .rt (qP (K := K) (yTupOf yCn) c), DS.cast (m' := m_turned path_here_p) (ds_cons (ρ1 := fun (a_1 : (Int × Int)) => [some (.pl (yTupOf yCn) path_here_p), some (.pl yCn a_1), none, none]) (ds_set (i := 1) sc.nd rfl (.inr rfl) (de_ixT (de_var (pv 0) rfl) (de_c (T := yInt) (a := (0 : Int)) pe_int (fun _ => rfl)))) (fun (a_1 : (Int × Int)) => ds_cons (ρ1 := fun (b_2 : (Int × Int)) => [some (.pl (yTupOf yCn) path_here_p), some (.pl yCn a_1), some (.pl yCn b_2), none]) (ds_set (i := 2) sc.nd rfl (.inr rfl) (de_ixT (de_var (pv 0) rfl) (de_neg (de_c (T := yInt) (a := (1 : Int)) pe_int (fun _ => rfl))))) (fun (b_2 : (Int × Int)) => ds_one (ds_ret (f := (fun a => a)) (de_tupleL (imm_tup (imm_C imm_int (imm_1 imm_int))) rfl bt.tuple (DE.fpL (de_lc (own := [("_law_corner", 3)]) (ρ' := fun (corner_3 : (Int × Int)) => [some (.pl (yTupOf yCn) path_here_p), some (.pl yCn a_1), some (.pl yCn b_2), some (.pl yCn corner_3)]) (U := yCn) rfl sc.nd (DI.c (di_tup (de_revT (imm_tup (imm_C imm_int (imm_1 imm_int))) (de_var (pv 0) rfl)))) (blkOk_by (N := ["_law_path_here", "_law_a", "_law_b", "_law_corner"]) (sc := defScope s_turned) (by decide +kernel)) (fun _ _ _ _ _ => dgc (dg_name (pg_name (i := 3) sc.nd rfl (.inl rfl))) (by first | rfl | (dsimp only [Blk, Cx.blk, cxOf]; try rfl))) (by decide) (fun _ _ _ _ _ (corner_3 : (Int × Int)) => dtc (dts_nil) (by first | rfl | (dsimp only [Blk, Cx.blk, cxOf]; try rfl))) (fun _ _ _ _ _ (corner_3 : (Int × Int)) => dec (de_tup (dp_cons (de_sub (de_add (de_nth (de_var (pv 1) rfl) nth_0) (de_nth (de_var (pv 2) rfl) nth_0)) (de_nth (de_var (pv 3) rfl) nth_0)) (dp_one (de_sub (de_add (de_nth (de_var (pv 1) rfl) (nth_s nth_1)) (de_nth (de_var (pv 2) rfl) (nth_s nth_1))) (de_nth (de_var (pv 3) rfl) (nth_s nth_1)))))) (by first | rfl | (dsimp only [Blk, Cx.blk, cxOf]; try rfl)))))) (fun _ => rfl))))) (by unfold m_turned; simp only [bo, isIn_dec, andok, orok]), fun _ => .inl rfl⟩
def m_sayings (board_here_p : (Int × Int)) (half_p : PySem.Str) (path_here_p : (List (Int × Int))) : R Er (List (Int × Int)) := ((rIx path_here_p (0 : Int))).bind fun (a_1 : (Int × Int)) =>
  ((rIx path_here_p (-(1 : Int)))).bind fun (b_2 : (Int × Int)) =>
  if ((decide (a_1.1 = b_2.1)) || ((decide (a_1.2 = b_2.2)) || (!decide ((decide (half_p = ("rising" : PySem.Str))) = (decide (a_1.2 < b_2.2)))))) then (R.ok ([] : List (Int × Int))) else
  ((R.ok (a_1.1 + a_1.2)).bind fun (slot_3 : Int) =>
  (if (decide (half_p = ("falling" : PySem.Str))) then ((R.ok ((a_1.1 + board_here_p.2) - a_1.2)).bind fun (slot_5 : Int) =>
  R.ok slot_5) else
  (R.ok slot_3)).bind fun (s4 : Int) =>
  (((rRng 0 ((List.length path_here_p : Int) - (1 : Int)))).bind fun v12 => (lcR (fun (k_7 : Int) => (((rIx path_here_p k_7)).bind fun v8 => R.ok v8.2).bind fun v10 => (((rIx path_here_p (k_7 + (1 : Int)))).bind fun v9 => R.ok v9.2).bind fun v11 => R.ok (!decide (v10 = v11))) (fun (k_7 : Int) => (R.ok (s4 + k_7))) v12)).bind fun (steep_6 : (List Int)) =>
  (((rRng 0 ((List.length path_here_p : Int) - (1 : Int)))).bind fun v19 => (lcR (fun (k_14 : Int) => (((rIx path_here_p k_14)).bind fun v15 => R.ok v15.2).bind fun v17 => (((rIx path_here_p (k_14 + (1 : Int)))).bind fun v16 => R.ok v16.2).bind fun v18 => R.ok (decide (v17 = v18))) (fun (k_14 : Int) => (R.ok (s4 + k_14))) v19)).bind fun (flat_13 : (List Int)) =>
  (R.ok ([] : List (Int × Int))).bind fun (found_20 : (List (Int × Int))) =>
  (forS (fun (s_23 : Int) (s24 : (List (Int × Int))) => (forS (fun (t_25 : Int) (s26 : (List (Int × Int))) => ((rApp s26 (s_23, t_25))).bind fun (c28 : (Int × Int)) =>
  R.ok (s26 ++ [c28])) flat_13 s24).bind fun (s29 : (List (Int × Int))) =>
  R.ok s29) steep_6 found_20).bind fun (s30 : (List (Int × Int))) =>
  R.ok s30)
abbrev sp_sayings (P : Program) (w : World) (K : PySem.W.Frag) : Sp := spD (K := K) EX (tysC yCn (tysC yStr (tys1 (yTupOf yCn)))) (qF (K := K) (cLst yCn)) (fun a => m_sayings a.1 a.2.1 a.2.2)
theorem sc_sayings : FnScope ["_law_board_here", "_law_half", "_law_path_here", "_law_a", "_law_b", "_law_slot", "_law_steep", "_law_flat", "_law_found", "_law_s", "_law_t", "_law_k"] ["_law_board_here", "_law_half", "_law_path_here"] (defScope s_sayings) := ⟨rfl, rfl, rfl, by decide +kernel, rfl, by decide +kernel, by decide +kernel⟩
theorem ok_sayings {P : Program} {w : World} {K : PySem.W.Frag} {mg : Str → Option Value} {base : Heap} {f : Addr} {fd : FuncData} (F : FnP K "_law_sayings" s_sayings f fd) (bt : Bt mg) : FnOk P w K mg base CX 1 f fd ["_law_board_here", "_law_half", "_law_path_here"] (sp_sayings P w K) := by
  refine fn_ok F sc_sayings (entC (entC (ent1 rfl))) rfl fun cdv A outer s H E hr a => ?_
  obtain ⟨board_here_p, half_p, path_here_p⟩ := a
  have sc := sc_sayings
  exact ⟨_, fun c => .rt (qF (K := K) (cLst yCn) c), DS.cast (m' := m_sayings board_here_p half_p path_here_p) (ds_cons (ρ1 := fun (a_1 : (Int × Int)) => [some (.pl yCn board_here_p), some (.pl yStr half_p), some (.pl (yTupOf yCn) path_here_p), some (.pl yCn a_1), none, none, none, none, none, none, none, none]) (ds_set (i := 3) sc.nd rfl (.inl rfl) (de_ixT (de_var (pv 2) rfl) (de_c (T := yInt) (a := (0 : Int)) pe_int (fun _ => rfl)))) (fun (a_1 : (Int × Int)) => ds_cons (ρ1 := fun (b_2 : (Int × Int)) => [some (.pl yCn board_here_p), some (.pl yStr half_p), some (.pl (yTupOf yCn) path_here_p), some (.pl yCn a_1), some (.pl yCn b_2), none, none, none, none, none, none, none]) (ds_set (i := 4) sc.nd rfl (.inl rfl) (de_ixT (de_var (pv 2) rfl) (de_neg (de_c (T := yInt) (a := (1 : Int)) pe_int (fun _ => rfl))))) (fun (b_2 : (Int × Int)) => ds_ift (DW.dt (dw_or (DQ.dt (dq_eqI (de_nth (de_var (pv 3) rfl) nth_0) (de_nth (de_var (pv 4) rfl) nth_0))) (dw_or (DQ.dt (dq_eqI (de_nth (de_var (pv 3) rfl) (nth_s nth_1)) (de_nth (de_var (pv 4) rfl) (nth_s nth_1)))) (dw_or1 (DQ.dt (dq_ne q_bl (u64 hr) (lo rfl) (lo rfl) (DQ.de (dq_eqS (de_var (pv 1) rfl) (de_c (T := yStr) (a := ("rising" : PySem.Str)) pe_str (fun _ => ⟨rfl, by decide +kernel⟩)))) (DQ.de (dq_gt (de_nth (de_var (pv 4) rfl) (nth_s nth_1)) (de_nth (de_var (pv 3) rfl) (nth_s nth_1)))))))))) (ds_one (ds_retF (f := (fun a => a)) (de_lst (T := yCn) (dl_nil)) (fun _ => rfl))) (fun _ => rfl) (ds_cons (ρ1 := fun (slot_3 : Int) => [some (.pl yCn board_here_p), some (.pl yStr half_p), some (.pl (yTupOf yCn) path_here_p), some (.pl yCn a_1), some (.pl yCn b_2), some (.pl yInt slot_3), none, none, none, none, none, none]) (ds_set (i := 5) sc.nd rfl (.inr rfl) (de_add (de_nth (de_var (pv 3) rfl) nth_0) (de_nth (de_var (pv 3) rfl) (nth_s nth_1)))) (fun (slot_3 : Int) => ds_cons (ρ1 := fun (s4 : Int) => [some (.pl yCn board_here_p), some (.pl yStr half_p), some (.pl (yTupOf yCn) path_here_p), some (.pl yCn a_1), some (.pl yCn b_2), some (.pl yInt s4), none, none, none, none, none, none]) (ds_if1 (DQ.dt (dq_eqS (de_var (pv 1) rfl) (de_c (T := yStr) (a := ("falling" : PySem.Str)) pe_str (fun _ => ⟨rfl, by decide +kernel⟩)))) (ds_cons (ρ1 := fun (slot_5 : Int) => [some (.pl yCn board_here_p), some (.pl yStr half_p), some (.pl (yTupOf yCn) path_here_p), some (.pl yCn a_1), some (.pl yCn b_2), some (.pl yInt slot_5), none, none, none, none, none, none]) (ds_set (i := 5) sc.nd rfl (.inr rfl) (de_sub (de_add (de_nth (de_var (pv 3) rfl) nth_0) (de_nth (de_var (pv 0) rfl) (nth_s nth_1))) (de_nth (de_var (pv 3) rfl) (nth_s nth_1)))) (fun (slot_5 : Int) => ds_nil (c := slot_5) (by first | exact .inl rfl | exact .inr rfl) (.keep (.keep (.keep (.keep (.keep (.keep (.keep (.keep (.keep (.keep (.keep (.keep .nil)))))))))))))) (ds_nil (c := slot_3) (by first | exact .inl rfl | exact .inr rfl) (.keep (.keep (.keep (.keep (.keep (.keep (.keep (.keep (.keep (.keep (.keep (.keep .nil)))))))))))))) (fun (s4 : Int) => ds_cons (ρ1 := fun (steep_6 : (List Int)) => [some (.pl yCn board_here_p), some (.pl yStr half_p), some (.pl (yTupOf yCn) path_here_p), some (.pl yCn a_1), some (.pl yCn b_2), some (.pl yInt s4), some (.ow (cLst yInt) steep_6), none, none, none, none, none]) (ds_setLc (i := 6) (own := [("_law_k", 11)]) (ρ' := fun (k_7 : Int) => [some (.pl yCn board_here_p), some (.pl yStr half_p), some (.pl (yTupOf yCn) path_here_p), some (.pl yCn a_1), some (.pl yCn b_2), some (.pl yInt s4), none, none, none, none, none, some (.pl yInt k_7)]) (U := yInt) rfl sc.nd rfl rfl rfl (DI.c (di_range1 rfl bt.range (de_sub (de_len len_tupOf rfl bt.len (de_var (pv 2) rfl)) (de_c (T := yInt) (a := (1 : Int)) pe_int (fun _ => rfl))))) (blkOk_by (N := ["_law_board_here", "_law_half", "_law_path_here", "_law_a", "_law_b", "_law_slot", "_law_steep", "_law_flat", "_law_found", "_law_s", "_law_t", "_law_k"]) (sc := defScope s_sayings) (by decide +kernel)) (fun _ _ _ _ _ => dgc (dg_name (pg_name (i := 11) sc.nd rfl (.inl rfl))) (by first | rfl | (dsimp only [Blk, Cx.blk, cxOf]; try rfl))) (by decide) (fun _ _ _ _ _ (k_7 : Int) => dtc (dts_one (DQ.dt (dq_neI (de_nth (de_ixT (de_var (pv 2) rfl) (de_var (pv 11) rfl)) (nth_s nth_1)) (de_nth (de_ixT (de_var (pv 2) rfl) (de_add (de_var (pv 11) rfl) (de_c (T := yInt) (a := (1 : Int)) pe_int (fun _ => rfl)))) (nth_s nth_1))))) (by first | rfl | (dsimp only [Blk, Cx.blk, cxOf]; try rfl))) (fun _ _ _ _ _ (k_7 : Int) => dec (de_add (de_var (pv 5) rfl) (de_var (pv 11) rfl)) (by first | rfl | (dsimp only [Blk, Cx.blk, cxOf]; try rfl)))) (fun (steep_6 : (List Int)) => ds_cons (ρ1 := fun (flat_13 : (List Int)) => [some (.pl yCn board_here_p), some (.pl yStr half_p), some (.pl (yTupOf yCn) path_here_p), some (.pl yCn a_1), some (.pl yCn b_2), some (.pl yInt s4), some (.ow (cLst yInt) steep_6), some (.ow (cLst yInt) flat_13), none, none, none, none]) (ds_setLc (i := 7) (own := [("_law_k", 11)]) (ρ' := fun (k_14 : Int) => [some (.pl yCn board_here_p), some (.pl yStr half_p), some (.pl (yTupOf yCn) path_here_p), some (.pl yCn a_1), some (.pl yCn b_2), some (.pl yInt s4), some (.ow (cLst yInt) steep_6), none, none, none, none, some (.pl yInt k_14)]) (U := yInt) rfl sc.nd rfl rfl rfl (DI.c (di_range1 rfl bt.range (de_sub (de_len len_tupOf rfl bt.len (de_var (pv 2) rfl)) (de_c (T := yInt) (a := (1 : Int)) pe_int (fun _ => rfl))))) (blkOk_by (N := ["_law_board_here", "_law_half", "_law_path_here", "_law_a", "_law_b", "_law_slot", "_law_steep", "_law_flat", "_law_found", "_law_s", "_law_t", "_law_k"]) (sc := defScope s_sayings) (by decide +kernel)) (fun _ _ _ _ _ => dgc (dg_name (pg_name (i := 11) sc.nd rfl (.inl rfl))) (by first | rfl | (dsimp only [Blk, Cx.blk, cxOf]; try rfl))) (by decide) (fun _ _ _ _ _ (k_14 : Int) => dtc (dts_one (DQ.dt (dq_eqI (de_nth (de_ixT (de_var (pv 2) rfl) (de_var (pv 11) rfl)) (nth_s nth_1)) (de_nth (de_ixT (de_var (pv 2) rfl) (de_add (de_var (pv 11) rfl) (de_c (T := yInt) (a := (1 : Int)) pe_int (fun _ => rfl)))) (nth_s nth_1))))) (by first | rfl | (dsimp only [Blk, Cx.blk, cxOf]; try rfl))) (fun _ _ _ _ _ (k_14 : Int) => dec (de_add (de_var (pv 5) rfl) (de_var (pv 11) rfl)) (by first | rfl | (dsimp only [Blk, Cx.blk, cxOf]; try rfl)))) (fun (flat_13 : (List Int)) => ds_cons (ρ1 := fun (found_20 : (List (Int × Int))) => [some (.pl yCn board_here_p), some (.pl yStr half_p), some (.pl (yTupOf yCn) path_here_p), some (.pl yCn a_1), some (.pl yCn b_2), some (.pl yInt s4), some (.ow (cLst yInt) steep_6), some (.ow (cLst yInt) flat_13), some (.ow (cLst yCn) found_20), none, none, none]) (ds_setF (i := 8) sc.nd rfl (.inl rfl) (de_lst (T := yCn) (dl_nil))) (fun (found_20 : (List (Int × Int))) => ds_give (i := 6) rfl (ds_give (i := 7) rfl (ds_cons (ρ1 := fun (s30 : (List (Int × Int))) => [some (.pl yCn board_here_p), some (.pl yStr half_p), some (.pl (yTupOf yCn) path_here_p), some (.pl yCn a_1), some (.pl yCn b_2), some (.pl yInt s4), some (.pl (yLst yInt) steep_6), some (.pl (yLst yInt) flat_13), some (.ow (cLst yCn) s30), none, none, none]) (ds_forS (eH := fun (s24 : (List (Int × Int))) => [some (.pl yCn board_here_p), some (.pl yStr half_p), some (.pl (yTupOf yCn) path_here_p), some (.pl yCn a_1), some (.pl yCn b_2), some (.pl yInt s4), some (.pl (yLst yInt) steep_6), some (.pl (yLst yInt) flat_13), some (.ow (cLst yCn) s24), none, none, none]) (eB := fun (s24 : (List (Int × Int))) (s_23 : Int) => [some (.pl yCn board_here_p), some (.pl yStr half_p), some (.pl (yTupOf yCn) path_here_p), some (.pl yCn a_1), some (.pl yCn b_2), some (.pl yInt s4), some (.pl (yLst yInt) steep_6), some (.pl (yLst yInt) flat_13), some (.ow (cLst yCn) s24), some (.pl yInt s_23), none, none]) (a0 := found_20) (passes_of rfl) rfl (di_list (de_var (pv 6) rfl)) (.keep (.keep (.keep (.keep (.keep (.keep (.keep (.keep (.keep (.keep (.keep (.keep .nil)))))))))))) (fun (s24 : (List (Int × Int))) => dg_name (pg_name (i := 9) sc.nd rfl (.inl rfl))) (fun (s24 : (List (Int × Int))) (s_23 : Int) => ds_cons (ρ1 := fun (s29 : (List (Int × Int))) => [some (.pl yCn board_here_p), some (.pl yStr half_p), some (.pl (yTupOf yCn) path_here_p), some (.pl yCn a_1), some (.pl yCn b_2), some (.pl yInt s4), some (.pl (yLst yInt) steep_6), some (.pl (yLst yInt) flat_13), some (.ow (cLst yCn) s29), some (.pl yInt s_23), none, none]) (ds_forS (eH := fun (s26 : (List (Int × Int))) => [some (.pl yCn board_here_p), some (.pl yStr half_p), some (.pl (yTupOf yCn) path_here_p), some (.pl yCn a_1), some (.pl yCn b_2), some (.pl yInt s4), some (.pl (yLst yInt) steep_6), some (.pl (yLst yInt) flat_13), some (.ow (cLst yCn) s26), some (.pl yInt s_23), none, none]) (eB := fun (s26 : (List (Int × Int))) (t_25 : Int) => [some (.pl yCn board_here_p), some (.pl yStr half_p), some (.pl (yTupOf yCn) path_here_p), some (.pl yCn a_1), some (.pl yCn b_2), some (.pl yInt s4), some (.pl (yLst yInt) steep_6), some (.pl (yLst yInt) flat_13), some (.ow (cLst yCn) s26), some (.pl yInt s_23), some (.pl yInt t_25), none]) (a0 := s24) (passes_of rfl) rfl (di_list (de_var (pv 7) rfl)) (.keep (.keep (.keep (.keep (.keep (.keep (.keep (.keep (.keep (.keep (.keep (.keep .nil)))))))))))) (fun (s26 : (List (Int × Int))) => dg_name (pg_name (i := 10) sc.nd rfl (.inl rfl))) (fun (s26 : (List (Int × Int))) (t_25 : Int) => ds_cons (ρ1 := fun (c28 : (Int × Int)) => [some (.pl yCn board_here_p), some (.pl yStr half_p), some (.pl (yTupOf yCn) path_here_p), some (.pl yCn a_1), some (.pl yCn b_2), some (.pl yInt s4), some (.pl (yLst yInt) steep_6), some (.pl (yLst yInt) flat_13), some (.ow (cLst yCn) (s26 ++ [c28])), some (.pl yInt s_23), some (.pl yInt t_25), none]) (ds_append (pv 8) rfl (de_tup (dp_cons (de_var (pv 9) rfl) (dp_one (de_var (pv 10) rfl))))) (fun (c28 : (Int × Int)) => ds_nil (c := (s26 ++ [c28])) (by first | exact .inl rfl | exact .inr rfl) (.keep (.keep (.keep (.keep (.keep (.keep (.keep (.keep (.keep (.keep (.drop (.keep .nil))))))))))))))) (fun (s29 : (List (Int × Int))) => ds_nil (c := s29) (by first | exact .inl rfl | exact .inr rfl) (.keep (.keep (.keep (.keep (.keep (.keep (.keep (.keep (.keep (.drop (.keep (.keep .nil))))))))))))))) (fun (s30 : (List (Int × Int))) => ds_one (ds_retO (c := s30) (pv 8) rfl rfl))))))))))))) (by unfold m_sayings; simp only [bo, isIn_dec, andok, orok]), fun _ => .inl rfl⟩
def m_rings (says_p : (List (List (Int × Int)))) : R Er (List (Int × Int × Int × Int)) := (R.ok ([] : List (Int × Int × Int × Int))).bind fun (found_1 : (List (Int × Int × Int × Int))) =>
  (((rRng 0 (List.length says_p : Int))).bind fun v16 => forS (fun (i_2 : Int) (s3 : (List (Int × Int × Int × Int))) => (((rRng 0 (List.length says_p : Int))).bind fun v14 => forS (fun (j_4 : Int) (s5 : (List (Int × Int × Int × Int))) => (((rIx says_p i_2)).bind fun v12 => forS (fun (pair_6 : (Int × Int)) (s7 : (List (Int × Int × Int × Int))) => (((rIx says_p j_4)).bind fun v8 => R.ok (memB (pair_6.2, pair_6.1) v8)).bind fun v11 => if v11 then (((rApp s7 (i_2, j_4, pair_6.1, pair_6.2))).bind fun (c10 : (Int × Int × Int × Int)) =>
  R.ok (s7 ++ [c10])) else
  (R.ok s7)) v12 s5).bind fun (s13 : (List (Int × Int × Int × Int))) =>
  R.ok s13) v14 s3).bind fun (s15 : (List (Int × Int × Int × Int))) =>
  R.ok s15) v16 found_1).bind fun (s17 : (List (Int × Int × Int × Int))) =>
  R.ok s17
abbrev sp_rings (P : Program) (w : World) (K : PySem.W.Frag) : Sp := spD (K := K) EX (tys1 (yLst (yLst yCn))) (qF (K := K) (cLst (yTup (tysC yInt (tysC yInt (tysC yInt (tys1 yInt))))))) (fun a => m_rings a)
theorem sc_rings : FnScope ["_law_says", "_law_found", "_law_i", "_law_j", "_law_pair"] ["_law_says"] (defScope s_rings) := ⟨rfl, rfl, rfl, by decide +kernel, rfl, by decide +kernel, by decide +kernel⟩
theorem ok_rings {P : Program} {w : World} {K : PySem.W.Frag} {mg : Str → Option Value} {base : Heap} {f : Addr} {fd : FuncData} (F : FnP K "_law_rings" s_rings f fd) (bt : Bt mg) : FnOk P w K mg base CX 1 f fd ["_law_says"] (sp_rings P w K) := by
  refine fn_ok F sc_rings (ent1 rfl) rfl fun cdv A outer s H E hr says_p => ?_
  have sc := sc_rings
  exact ⟨_, fun c => .rt (qF (K := K) (cLst (yTup (tysC yInt (tysC yInt (tysC yInt (tys1 yInt)))))) c), DS.cast (m' := m_rings says_p) (ds_cons (ρ1 := fun (found_1 : (List (Int × Int × Int × Int))) => [some (.pl (yLst (yLst yCn)) says_p), some (.ow (cLst (yTup (tysC yInt (tysC yInt (tysC yInt (tys1 yInt)))))) found_1), none, none, none]) (ds_setF (i := 1) sc.nd rfl (.inl rfl) (de_lst (T := (yTup (tysC yInt (tysC yInt (tysC yInt (tys1 yInt)))))) (dl_nil))) (fun (found_1 : (List (Int × Int × Int × Int))) => ds_cons (ρ1 := fun (s17 : (List (Int × Int × Int × Int))) => [some (.pl (yLst (yLst yCn)) says_p), some (.ow (cLst (yTup (tysC yInt (tysC yInt (tysC yInt (tys1 yInt)))))) s17), none, none, none]) (ds_forS (eH := fun (s3 : (List (Int × Int × Int × Int))) => [some (.pl (yLst (yLst yCn)) says_p), some (.ow (cLst (yTup (tysC yInt (tysC yInt (tysC yInt (tys1 yInt)))))) s3), none, none, none]) (eB := fun (s3 : (List (Int × Int × Int × Int))) (i_2 : Int) => [some (.pl (yLst (yLst yCn)) says_p), some (.ow (cLst (yTup (tysC yInt (tysC yInt (tysC yInt (tys1 yInt)))))) s3), some (.pl yInt i_2), none, none]) (a0 := found_1) (passes_of rfl) rfl (di_range1 rfl bt.range (de_len len_lst rfl bt.len (de_var (pv 0) rfl))) (.keep (.keep (.keep (.keep (.keep .nil))))) (fun (s3 : (List (Int × Int × Int × Int))) => dg_name (pg_name (i := 2) sc.nd rfl (.inl rfl))) (fun (s3 : (List (Int × Int × Int × Int))) (i_2 : Int) => ds_cons (ρ1 := fun (s15 : (List (Int × Int × Int × Int))) => [some (.pl (yLst (yLst yCn)) says_p), some (.ow (cLst (yTup (tysC yInt (tysC yInt (tysC yInt (tys1 yInt)))))) s15), some (.pl yInt i_2), none, none]) (ds_forS (eH := fun (s5 : (List (Int × Int × Int × Int))) => [some (.pl (yLst (yLst yCn)) says_p), some (.ow (cLst (yTup (tysC yInt (tysC yInt (tysC yInt (tys1 yInt)))))) s5), some (.pl yInt i_2), none, none]) (eB := fun (s5 : (List (Int × Int × Int × Int))) (j_4 : Int) => [some (.pl (yLst (yLst yCn)) says_p), some (.ow (cLst (yTup (tysC yInt (tysC yInt (tysC yInt (tys1 yInt)))))) s5), some (.pl yInt i_2), some (.pl yInt j_4), none]) (a0 := s3) (passes_of rfl) rfl (di_range1 rfl bt.range (de_len len_lst rfl bt.len (de_var (pv 0) rfl))) (.keep (.keep (.keep (.keep (.keep .nil))))) (fun (s5 : (List (Int × Int × Int × Int))) => dg_name (pg_name (i := 3) sc.nd rfl (.inl rfl))) (fun (s5 : (List (Int × Int × Int × Int))) (j_4 : Int) => ds_cons (ρ1 := fun (s13 : (List (Int × Int × Int × Int))) => [some (.pl (yLst (yLst yCn)) says_p), some (.ow (cLst (yTup (tysC yInt (tysC yInt (tysC yInt (tys1 yInt)))))) s13), some (.pl yInt i_2), some (.pl yInt j_4), none]) (ds_forS (eH := fun (s7 : (List (Int × Int × Int × Int))) => [some (.pl (yLst (yLst yCn)) says_p), some (.ow (cLst (yTup (tysC yInt (tysC yInt (tysC yInt (tys1 yInt)))))) s7), some (.pl yInt i_2), some (.pl yInt j_4), none]) (eB := fun (s7 : (List (Int × Int × Int × Int))) (pair_6 : (Int × Int)) => [some (.pl (yLst (yLst yCn)) says_p), some (.ow (cLst (yTup (tysC yInt (tysC yInt (tysC yInt (tys1 yInt)))))) s7), some (.pl yInt i_2), some (.pl yInt j_4), some (.pl yCn pair_6)]) (a0 := s5) (passes_of rfl) rfl (di_list (de_ixL (de_var (pv 0) rfl) (de_var (pv 2) rfl))) (.keep (.keep (.keep (.keep (.keep .nil))))) (fun (s7 : (List (Int × Int × Int × Int))) => dg_name (pg_name (i := 4) sc.nd rfl (.inl rfl))) (fun (s7 : (List (Int × Int × Int × Int))) (pair_6 : (Int × Int)) => ds_one (ds_if1 (DQ.dt (dq_inL (q_tup (q_C q_int (q_1 q_int))) (u65 hr) (lo rfl) (de_tup (dp_cons (de_nth (de_var (pv 4) rfl) (nth_s nth_1)) (dp_one (de_nth (de_var (pv 4) rfl) nth_0)))) (de_ixL (de_var (pv 0) rfl) (de_var (pv 3) rfl)))) (ds_cons (ρ1 := fun (c10 : (Int × Int × Int × Int)) => [some (.pl (yLst (yLst yCn)) says_p), some (.ow (cLst (yTup (tysC yInt (tysC yInt (tysC yInt (tys1 yInt)))))) (s7 ++ [c10])), some (.pl yInt i_2), some (.pl yInt j_4), some (.pl yCn pair_6)]) (ds_append (pv 1) rfl (de_tup (dp_cons (de_var (pv 2) rfl) (dp_cons (de_var (pv 3) rfl) (dp_cons (de_nth (de_var (pv 4) rfl) nth_0) (dp_one (de_nth (de_var (pv 4) rfl) (nth_s nth_1)))))))) (fun (c10 : (Int × Int × Int × Int)) => ds_nil (c := (s7 ++ [c10])) (by first | exact .inl rfl | exact .inr rfl) (.keep (.keep (.keep (.keep (.drop .nil))))))) (ds_nil (c := s7) (by first | exact .inl rfl | exact .inr rfl) (.keep (.keep (.keep (.keep (.drop .nil))))))))) (fun (s13 : (List (Int × Int × Int × Int))) => ds_nil (c := s13) (by first | exact .inl rfl | exact .inr rfl) (.keep (.keep (.keep (.drop (.keep .nil)))))))) (fun (s15 : (List (Int × Int × Int × Int))) => ds_nil (c := s15) (by first | exact .inl rfl | exact .inr rfl) (.keep (.keep (.drop (.keep (.keep .nil)))))))) (fun (s17 : (List (Int × Int × Int × Int))) => ds_one (ds_retO (c := s17) (pv 1) rfl rfl)))) (by unfold m_rings; simp only [bo, isIn_dec, andok, orok]), fun _ => .inl rfl⟩
def m_union (says_p : (List (List (Int × Int)))) : R Er (List (Int × Int)) := (R.ok ([] : List (Int × Int))).bind fun (found_1 : (List (Int × Int))) =>
  (forS (fun (row_2 : (List (Int × Int))) (s3 : (List (Int × Int))) => (forS (fun (pair_4 : (Int × Int)) (s5 : (List (Int × Int))) => if (!memB pair_4 s5) then (((rApp s5 pair_4)).bind fun (c7 : (Int × Int)) =>
  R.ok (s5 ++ [c7])) else
  (R.ok s5)) row_2 s3).bind fun (s8 : (List (Int × Int))) =>
  R.ok s8) says_p found_1).bind fun (s9 : (List (Int × Int))) =>
  R.ok (sortD (fun (a : (Int × Int)) => (PyData.tuple [(PyData.int a.1), (PyData.int a.2)])) s9)
abbrev sp_union (P : Program) (w : World) (K : PySem.W.Frag) : Sp := spD (K := K) EX (tys1 (yLst (yLst yCn))) (qF (K := K) (cLst yCn)) (fun a => m_union a)
theorem sc_union : FnScope ["_law_says", "_law_found", "_law_row", "_law_pair"] ["_law_says"] (defScope s_union) := ⟨rfl, rfl, rfl, by decide +kernel, rfl, by decide +kernel, by decide +kernel⟩
theorem ok_union {P : Program} {w : World} {K : PySem.W.Frag} {mg : Str → Option Value} {base : Heap} {f : Addr} {fd : FuncData} (F : FnP K "_law_union" s_union f fd) (bt : Bt mg) : FnOk P w K mg base CX 1 f fd ["_law_says"] (sp_union P w K) := by
  refine fn_ok F sc_union (ent1 rfl) rfl fun cdv A outer s H E hr says_p => ?_
  have sc := sc_union
  exact ⟨_, fun c => .rt (qF (K := K) (cLst yCn) c), DS.cast (m' := m_union says_p) (ds_cons (ρ1 := fun (found_1 : (List (Int × Int))) => [some (.pl (yLst (yLst yCn)) says_p), some (.ow (cLst yCn) found_1), none, none]) (ds_setF (i := 1) sc.nd rfl (.inl rfl) (de_lst (T := yCn) (dl_nil))) (fun (found_1 : (List (Int × Int))) => ds_cons (ρ1 := fun (s9 : (List (Int × Int))) => [some (.pl (yLst (yLst yCn)) says_p), some (.ow (cLst yCn) s9), none, none]) (ds_forS (eH := fun (s3 : (List (Int × Int))) => [some (.pl (yLst (yLst yCn)) says_p), some (.ow (cLst yCn) s3), none, none]) (eB := fun (s3 : (List (Int × Int))) (row_2 : (List (Int × Int))) => [some (.pl (yLst (yLst yCn)) says_p), some (.ow (cLst yCn) s3), some (.pl (yLst yCn) row_2), none]) (a0 := found_1) (passes_of rfl) rfl (di_list (de_var (pv 0) rfl)) (.keep (.keep (.keep (.keep .nil)))) (fun (s3 : (List (Int × Int))) => dg_name (pg_name (i := 2) sc.nd rfl (.inl rfl))) (fun (s3 : (List (Int × Int))) (row_2 : (List (Int × Int))) => ds_cons (ρ1 := fun (s8 : (List (Int × Int))) => [some (.pl (yLst (yLst yCn)) says_p), some (.ow (cLst yCn) s8), some (.pl (yLst yCn) row_2), none]) (ds_forS (eH := fun (s5 : (List (Int × Int))) => [some (.pl (yLst (yLst yCn)) says_p), some (.ow (cLst yCn) s5), some (.pl (yLst yCn) row_2), none]) (eB := fun (s5 : (List (Int × Int))) (pair_4 : (Int × Int)) => [some (.pl (yLst (yLst yCn)) says_p), some (.ow (cLst yCn) s5), some (.pl (yLst yCn) row_2), some (.pl yCn pair_4)]) (a0 := s3) (passes_of rfl) rfl (di_list (de_var (pv 2) rfl)) (.keep (.keep (.keep (.keep .nil)))) (fun (s5 : (List (Int × Int))) => dg_name (pg_name (i := 3) sc.nd rfl (.inl rfl))) (fun (s5 : (List (Int × Int))) (pair_4 : (Int × Int)) => ds_one (ds_if1 (DQ.dt (dq_notInL (q_tup (q_C q_int (q_1 q_int))) (u65 hr) (lo rfl) (de_var (pv 3) rfl) (de_ownL (pv 1) rfl))) (ds_cons (ρ1 := fun (c7 : (Int × Int)) => [some (.pl (yLst (yLst yCn)) says_p), some (.ow (cLst yCn) (s5 ++ [c7])), some (.pl (yLst yCn) row_2), some (.pl yCn pair_4)]) (ds_append (pv 1) rfl (de_var (pv 3) rfl)) (fun (c7 : (Int × Int)) => ds_nil (c := (s5 ++ [c7])) (by first | exact .inl rfl | exact .inr rfl) (.keep (.keep (.keep (.drop .nil)))))) (ds_nil (c := s5) (by first | exact .inl rfl | exact .inr rfl) (.keep (.keep (.keep (.drop .nil)))))))) (fun (s8 : (List (Int × Int))) => ds_nil (c := s8) (by first | exact .inl rfl | exact .inr rfl) (.keep (.keep (.drop (.keep .nil))))))) (fun (s9 : (List (Int × Int))) => ds_one (ds_retF (f := (fun a => a)) (de_sortedD (P := (pTup (psC pInt (ps1 pInt)))) (py := (fun (a : (Int × Int)) => (PyData.tuple [(PyData.int a.1), (PyData.int a.2)]))) (fun _ => rfl) (fun _ _ => rfl) (fun _ => ⟨_, _, rfl⟩) (imm_tup (imm_C imm_int (imm_1 imm_int))) (u64 hr) rfl bt.sorted (de_ownL (pv 1) rfl)) (fun _ => rfl))))) (by unfold m_union; simp only [bo, isIn_dec, andok, orok]), fun _ => .inl rfl⟩
def m_half_of (p_p : (Int × Int)) (q_p : (Int × Int)) : R Er (Option PySem.Str) := if ((decide (p_p.1 = q_p.1)) || (decide (p_p.2 = q_p.2))) then (R.ok (none : (Option PySem.Str))) else
  (if (decide (p_p.2 < q_p.2)) then (R.ok (some ("rising" : PySem.Str))) else
  (R.ok (some ("falling" : PySem.Str))))
abbrev sp_half_of (P : Program) (w : World) (K : PySem.W.Frag) : Sp := spD (K := K) EX (tysC yCn (tys1 yCn)) (qP (K := K) (yOpt yStr)) (fun a => m_half_of a.1 a.2)
theorem sc_half_of : FnScope ["p", "q"] ["p", "q"] (defScope s_half_of) := ⟨rfl, rfl, rfl, by decide +kernel, rfl, by decide +kernel, by decide +kernel⟩
theorem ok_half_of {P : Program} {w : World} {K : PySem.W.Frag} {mg : Str → Option Value} {base : Heap} {f : Addr} {fd : FuncData} (F : FnP K "half_of" s_half_of f fd) (bt : Bt mg) : FnOk P w K mg base CX 1 f fd ["p", "q"] (sp_half_of P w K) := by
  refine fn_ok F sc_half_of (entC (ent1 rfl)) rfl fun cdv A outer s H E hr a => ?_
  obtain ⟨p_p, q_p⟩ := a
  have sc := sc_half_of
  exact ⟨_, fun c => .rt (qP (K := K) (yOpt yStr) c), DS.cast (m' := m_half_of p_p q_p) (ds_ift (DW.dt (dw_or (DQ.dt (dq_eqI (de_nth (de_var (pv 0) rfl) nth_0) (de_nth (de_var (pv 1) rfl) nth_0))) (dw_or1 (DQ.dt (dq_eqI (de_nth (de_var (pv 0) rfl) (nth_s nth_1)) (de_nth (de_var (pv 1) rfl) (nth_s nth_1))))))) (ds_one (ds_ret (f := (fun a => a)) (DE.as_ (U := (yOpt yStr)) (f := fun _ => none) (de_c (T := yNon) (a := ()) pe_non (fun _ => rfl)) (fun h => h)) (fun _ => rfl))) (fun _ => rfl) (ds_ift (DQ.dt (dq_lt (de_nth (de_var (pv 0) rfl) (nth_s nth_1)) (de_nth (de_var (pv 1) rfl) (nth_s nth_1)))) (ds_one (ds_ret (f := (fun a => a)) (DE.as_ (U := (yOpt yStr)) (f := some) (de_gS rfl bt.k_RISING) (fun h => ⟨h, nn_str h⟩)) (fun _ => rfl))) (fun _ => rfl) (ds_one (ds_ret (f := (fun a => a)) (DE.as_ (U := (yOpt yStr)) (f := some) (de_gS rfl bt.k_FALLING) (fun h => ⟨h, nn_str h⟩)) (fun _ => rfl))))) (by unfold m_half_of; simp only [bo, isIn_dec, andok, orok]), fun _ => .inl rfl⟩
def m_path_kind (path_p : (List (Int × Int))) : R Er PySem.Str := if (decide ((List.length path_p : Int) = (1 : Int))) then (R.ok ("point" : PySem.Str)) else
  (((((rIx path_p (0 : Int))).bind fun v2 => ((rIx path_p (-(1 : Int)))).bind fun v3 => R.ok (v2, v3)).bind fun v4 => (m_half_of v4.1 v4.2)).bind fun (half_1 : (Option PySem.Str)) =>
  if (Option.isNone half_1) then (R.ok ("straight" : PySem.Str)) else
  ((unO half_1).bind fun (half_5 : PySem.Str) =>
  R.ok half_5))
abbrev sp_path_kind (P : Program) (w : World) (K : PySem.W.Frag) : Sp := spD (K := K) EX (tys1 (yTupOf yCn)) (qP (K := K) yStr) (fun a => m_path_kind a)
theorem sc_path_kind : FnScope ["path", "half"] ["path"] (defScope s_path_kind) := ⟨rfl, rfl, rfl, by decide +kernel, rfl, by decide +kernel, by decide +kernel⟩
theorem ok_path_kind {P : Program} {w : World} {K : PySem.W.Frag} {mg : Str → Option Value} {base : Heap} {f : Addr} {fd : FuncData} (F : FnP K "path_kind" s_path_kind f fd) (c_half_of : Cal P w K mg base CX 1 "half_of" ["p", "q"] (sp_half_of P w K)) (bt : Bt mg) : FnOk P w K mg base CX 2 f fd ["path"] (sp_path_kind P w K) := by
  refine fn_ok F sc_path_kind (ent1 rfl) rfl fun cdv A outer s H E hr path_p => ?_
  have sc := sc_path_kind
  exact ⟨_, fun c => .rt (qP (K := K) yStr c), DS.cast (m' := m_path_kind path_p) (ds_ift (DQ.dt (dq_eqI (de_len len_tupOf rfl bt.len (de_var (pv 0) rfl)) (de_c (T := yInt) (a := (1 : Int)) pe_int (fun _ => rfl)))) (ds_one (ds_ret (f := (fun a => a)) (de_c (T := yStr) (a := ("point" : PySem.Str)) pe_str (fun _ => ⟨rfl, by decide +kernel⟩)) (fun _ => rfl))) (fun _ => rfl) (ds_cons (ρ1 := fun (half_1 : (Option PySem.Str)) => [some (.pl (yTupOf yCn) path_p), some (.pl (yOpt yStr) half_1)]) (ds_set (i := 1) sc.nd rfl (.inl rfl) (de_call c_half_of.ok (hr.mono (by decide)) rfl c_half_of.mg c_half_of.kp c_half_of.bd passC (da_cons (de_ixT (de_var (pv 0) rfl) (de_c (T := yInt) (a := (0 : Int)) pe_int (fun _ => rfl))) (da_one (de_ixT (de_var (pv 0) rfl) (de_neg (de_c (T := yInt) (a := (1 : Int)) pe_int (fun _ => rfl)))))) (imm_opt imm_str) (wkN rfl))) (fun (half_1 : (Option PySem.Str)) => ds_ift (DQ.dt (dq_isN (de_var (pv 1) rfl))) (ds_one (ds_ret (f := (fun a => a)) (de_c (T := yStr) (a := ("straight" : PySem.Str)) pe_str (fun _ => ⟨rfl, by decide +kernel⟩)) (fun _ => rfl))) (fun _ => rfl) (ds_unopt (i := 1) rfl (fun (half_5 : PySem.Str) => ds_one (ds_ret (f := (fun a => a)) (de_var (pv 1) rfl) (fun _ => rfl))))))) (by unfold m_path_kind; simp only [bo, isIn_dec, andok, orok]), fun _ => .inl rfl⟩
def m_slot_of (board_p : (Int × Int)) (half_p : PySem.Str) (corner_p : (Int × Int)) : R Er Int := if (decide (half_p = ("rising" : PySem.Str))) then (R.ok (corner_p.1 + corner_p.2)) else
  (R.ok ((corner_p.1 + board_p.2) - corner_p.2))
abbrev sp_slot_of (P : Program) (w : World) (K : PySem.W.Frag) : Sp := spD (K := K) EX (tysC yCn (tysC yStr (tys1 yCn))) (qP (K := K) yInt) (fun a => m_slot_of a.1 a.2.1 a.2.2)
theorem sc_slot_of : FnScope ["board", "half", "corner"] ["board", "half", "corner"] (defScope s_slot_of) := ⟨rfl, rfl, rfl, by decide +kernel, rfl, by decide +kernel, by decide +kernel⟩
theorem ok_slot_of {P : Program} {w : World} {K : PySem.W.Frag} {mg : Str → Option Value} {base : Heap} {f : Addr} {fd : FuncData} (F : FnP K "slot_of" s_slot_of f fd) (bt : Bt mg) : FnOk P w K mg base CX 1 f fd ["board", "half", "corner"] (sp_slot_of P w K) := by
  refine fn_ok F sc_slot_of (entC (entC (ent1 rfl))) rfl fun cdv A outer s H E hr a => ?_
  obtain ⟨board_p, half_p, corner_p⟩ := a
  have sc := sc_slot_of
  exact ⟨_, fun c => .rt (qP (K := K) yInt c), DS.cast (m' := m_slot_of board_p half_p corner_p) (ds_ift (DQ.dt (dq_eqS (de_var (pv 1) rfl) (de_gS rfl bt.k_RISING))) (ds_one (ds_ret (f := (fun a => a)) (de_add (de_nth (de_var (pv 2) rfl) nth_0) (de_nth (de_var (pv 2) rfl) (nth_s nth_1))) (fun _ => rfl))) (fun _ => rfl) (ds_one (ds_ret (f := (fun a => a)) (de_sub (de_add (de_nth (de_var (pv 2) rfl) nth_0) (de_nth (de_var (pv 0) rfl) (nth_s nth_1))) (de_nth (de_var (pv 2) rfl) (nth_s nth_1))) (fun _ => rfl)))) (by unfold m_slot_of; simp only [bo, isIn_dec, andok, orok]), fun _ => .inl rfl⟩
def m_sayings_of_row (slot_p : Int) (row_p : (List (Int × Int))) : R Er (List (Int × Int)) := (((rRng 0 ((List.length row_p : Int) - (1 : Int)))).bind fun v7 => (lcR (fun (k_2 : Int) => (((rIx row_p k_2)).bind fun v3 => R.ok v3.2).bind fun v5 => (((rIx row_p (k_2 + (1 : Int)))).bind fun v4 => R.ok v4.2).bind fun v6 => R.ok (!decide (v5 = v6))) (fun (k_2 : Int) => (R.ok (slot_p + k_2))) v7)).bind fun (steep_1 : (List Int)) =>
  (((rRng 0 ((List.length row_p : Int) - (1 : Int)))).bind fun v14 => (lcR (fun (k_9 : Int) => (((rIx row_p k_9)).bind fun v10 => R.ok v10.2).bind fun v12 => (((rIx row_p (k_9 + (1 : Int)))).bind fun v11 => R.ok v11.2).bind fun v13 => R.ok (decide (v12 = v13))) (fun (k_9 : Int) => (R.ok (slot_p + k_9))) v14)).bind fun (flat_8 : (List Int)) =>
  ((lc2R (fun (s_17 : Int) => (R.ok true)) (fun (s_17 : Int) => (R.ok flat_8)) (fun (s_17 : Int) (t_18 : Int) => (R.ok true)) (fun (s_17 : Int) (t_18 : Int) => (R.ok (s_17, t_18))) steep_1)).bind fun v19 => R.ok v19
abbrev sp_sayings_of_row (P : Program) (w : World) (K : PySem.W.Frag) : Sp := spD (K := K) EX (tysC yInt (tys1 (yTupOf yCn))) (qF (K := K) (cLst yCn)) (fun a => m_sayings_of_row a.1 a.2)
theorem sc_sayings_of_row : FnScope ["slot", "row", "steep", "flat", "k", "s", "t"] ["slot", "row"] (defScope s_sayings_of_row) := ⟨rfl, rfl, rfl, by decide +kernel, rfl, by decide +kernel, by decide +kernel⟩
theorem ok_sayings_of_row {P : Program} {w : World} {K : PySem.W.Frag} {mg : Str → Option Value} {base : Heap} {f : Addr} {fd : FuncData} (F : FnP K "sayings_of_row" s_sayings_of_row f fd) (bt : Bt mg) : FnOk P w K mg base CX 1 f fd ["slot", "row"] (sp_sayings_of_row P w K) := by
  refine fn_ok F sc_sayings_of_row (entC (ent1 rfl)) rfl fun cdv A outer s H E hr a => ?_
  obtain ⟨slot_p, row_p⟩ := a
  have sc := sc_sayings_of_row
  exact ⟨_, fun c => .rt (qF (K := K) (cLst yCn) c), DS.cast (m' := m_sayings_of_row slot_p row_p) (ds_cons (ρ1 := fun (steep_1 : (List Int)) => [some (.pl yInt slot_p), some (.pl (yTupOf yCn) row_p), some (.ow (cLst yInt) steep_1), none, none, none, none]) (ds_setLc (i := 2) (own := [("k", 4)]) (ρ' := fun (k_2 : Int) => [some (.pl yInt slot_p), some (.pl (yTupOf yCn) row_p), none, none, some (.pl yInt k_2), none, none]) (U := yInt) rfl sc.nd rfl rfl rfl (DI.c (di_range1 rfl bt.range (de_sub (de_len len_tupOf rfl bt.len (de_var (pv 1) rfl)) (de_c (T := yInt) (a := (1 : Int)) pe_int (fun _ => rfl))))) (blkOk_by (N := ["slot", "row", "steep", "flat", "k", "s", "t"]) (sc := defScope s_sayings_of_row) (by decide +kernel)) (fun _ _ _ _ _ => dgc (dg_name (pg_name (i := 4) sc.nd rfl (.inl rfl))) (by first | rfl | (dsimp only [Blk, Cx.blk, cxOf]; try rfl))) (by decide) (fun _ _ _ _ _ (k_2 : Int) => dtc (dts_one (DQ.dt (dq_neI (de_nth (de_ixT (de_var (pv 1) rfl) (de_var (pv 4) rfl)) (nth_s nth_1)) (de_nth (de_ixT (de_var (pv 1) rfl) (de_add (de_var (pv 4) rfl) (de_c (T := yInt) (a := (1 : Int)) pe_int (fun _ => rfl)))) (nth_s nth_1))))) (by first | rfl | (dsimp only [Blk, Cx.blk, cxOf]; try rfl))) (fun _ _ _ _ _ (k_2 : Int) => dec (de_add (de_var (pv 0) rfl) (de_var (pv 4) rfl)) (by first | rfl | (dsimp only [Blk, Cx.blk, cxOf]; try rfl)))) (fun (steep_1 : (List Int)) => ds_cons (ρ1 := fun (flat_8 : (List Int)) => [some (.pl yInt slot_p), some (.pl (yTupOf yCn) row_p), some (.ow (cLst yInt) steep_1), some (.ow (cLst yInt) flat_8), none, none, none]) (ds_setF (i := 3) sc.nd rfl (.inr rfl) (de_lc (own := [("k", 4)]) (ρ' := fun (k_9 : Int) => [some (.pl yInt slot_p), some (.pl (yTupOf yCn) row_p), some (.ow (cLst yInt) steep_1), none, some (.pl yInt k_9), none, none]) (U := yInt) rfl sc.nd (DI.c (di_range1 rfl bt.range (de_sub (de_len len_tupOf rfl bt.len (de_var (pv 1) rfl)) (de_c (T := yInt) (a := (1 : Int)) pe_int (fun _ => rfl))))) (blkOk_by (N := ["slot", "row", "steep", "flat", "k", "s", "t"]) (sc := defScope s_sayings_of_row) (by decide +kernel)) (fun _ _ _ _ _ => dgc (dg_name (pg_name (i := 4) sc.nd rfl (.inl rfl))) (by first | rfl | (dsimp only [Blk, Cx.blk, cxOf]; try rfl))) (by decide) (fun _ _ _ _ _ (k_9 : Int) => dtc (dts_one (DQ.dt (dq_eqI (de_nth (de_ixT (de_var (pv 1) rfl) (de_var (pv 4) rfl)) (nth_s nth_1)) (de_nth (de_ixT (de_var (pv 1) rfl) (de_add (de_var (pv 4) rfl) (de_c (T := yInt) (a := (1 : Int)) pe_int (fun _ => rfl)))) (nth_s nth_1))))) (by first | rfl | (dsimp only [Blk, Cx.blk, cxOf]; try rfl))) (fun _ _ _ _ _ (k_9 : Int) => dec (de_add (de_var (pv 0) rfl) (de_var (pv 4) rfl)) (by first | rfl | (dsimp only [Blk, Cx.blk, cxOf]; try rfl))))) (fun (flat_8 : (List Int)) => ds_give (i := 3) rfl (ds_one (ds_retF (f := (fun a => a)) (de_lc2 (own := [("s", 5), ("t", 6)]) (vs1 := [6]) (ρ' := fun (s_17 : Int) => [some (.pl yInt slot_p), some (.pl (yTupOf yCn) row_p), some (.ow (cLst yInt) steep_1), some (.pl (yLst yInt) flat_8), none, some (.pl yInt s_17), none]) (ρ2 := fun (s_17 : Int) (t_18 : Int) => [some (.pl yInt slot_p), some (.pl (yTupOf yCn) row_p), some (.ow (cLst yInt) steep_1), some (.pl (yLst yInt) flat_8), none, some (.pl yInt s_17), some (.pl yInt t_18)]) (U := yCn) rfl sc.nd (dic_list imm_int (de_ownL (pv 2) rfl)) (blkOk_by (N := ["slot", "row", "steep", "flat", "k", "s", "t"]) (sc := defScope s_sayings_of_row) (by decide +kernel)) (by decide) (fun _ _ _ _ _ => dgc (dg_name (pg_name (i := 5) sc.nd rfl (.inl rfl))) (by first | rfl | (dsimp only [Blk, Cx.blk, cxOf]; try rfl))) (by decide) (fun _ _ _ _ _ (s_17 : Int) => dtc (dts_nil) (by first | rfl | (dsimp only [Blk, Cx.blk, cxOf]; try rfl))) (fun _ _ _ _ _ (s_17 : Int) => dic (di_list (de_var (pv 3) rfl)) (by first | rfl | (dsimp only [Blk, Cx.blk, cxOf]; try rfl))) (fun _ _ _ _ _ (s_17 : Int) => dgc (dg_name (pg_name (i := 6) sc.nd rfl (.inl rfl))) (by first | rfl | (dsimp only [Blk, Cx.blk, cxOf]; try rfl))) (by decide) (fun _ _ _ _ _ (s_17 : Int) (t_18 : Int) => dtc (dts_nil) (by first | rfl | (dsimp only [Blk, Cx.blk, cxOf]; try rfl))) (fun _ _ _ _ _ (s_17 : Int) (t_18 : Int) => dec (de_tup (dp_cons (de_var (pv 5) rfl) (dp_one (de_var (pv 6) rfl)))) (by first | rfl | (dsimp only [Blk, Cx.blk, cxOf]; try rfl)))) (fun _ => rfl)))))) (by unfold m_sayings_of_row; simp only [bo, isIn_dec, andok, orok]), fun _ => .inl rfl⟩
def m_sayings_of_path (board_p : (Int × Int)) (half_p : PySem.Str) (path_p : (List (Int × Int))) : R Er (List (Int × Int)) := (((m_path_kind path_p)).bind fun v1 => R.ok (!decide (v1 = half_p))).bind fun v8 => if v8 then (R.ok ([] : List (Int × Int))) else
  ((((((((rIx path_p (0 : Int))).bind fun v2 => R.ok (half_p, v2)).bind fun v3 => R.ok (board_p, v3)).bind fun v4 => (m_slot_of v4.1 v4.2.1 v4.2.2)).bind fun v5 => R.ok (v5, path_p)).bind fun v6 => (m_sayings_of_row v6.1 v6.2)).bind fun v7 => R.ok v7)
abbrev sp_sayings_of_path (P : Program) (w : World) (K : PySem.W.Frag) : Sp := spD (K := K) EX (tysC yCn (tysC yStr (tys1 (yTupOf yCn)))) (qF (K := K) (cLst yCn)) (fun a => m_sayings_of_path a.1 a.2.1 a.2.2)
theorem sc_sayings_of_path : FnScope ["board", "half", "path"] ["board", "half", "path"] (defScope s_sayings_of_path) := ⟨rfl, rfl, rfl, by decide +kernel, rfl, by decide +kernel, by decide +kernel⟩
theorem ok_sayings_of_path {P : Program} {w : World} {K : PySem.W.Frag} {mg : Str → Option Value} {base : Heap} {f : Addr} {fd : FuncData} (F : FnP K "sayings_of_path" s_sayings_of_path f fd) (c_path_kind : Cal P w K mg base CX 2 "path_kind" ["path"] (sp_path_kind P w K)) (c_slot_of : Cal P w K mg base CX 1 "slot_of" ["board", "half", "corner"] (sp_slot_of P w K)) (c_sayings_of_row : Cal P w K mg base CX 1 "sayings_of_row" ["slot", "row"] (sp_sayings_of_row P w K)) (bt : Bt mg) : FnOk P w K mg base CX 3 f fd ["board", "half", "path"] (sp_sayings_of_path P w K) := by
  refine fn_ok F sc_sayings_of_path (entC (entC (ent1 rfl))) rfl fun cdv A outer s H E hr a => ?_
  obtain ⟨board_p, half_p, path_p⟩ := a
  have sc := sc_sayings_of_path
  exact ⟨_, fun c => .rt (qF (K := K) (cLst yCn) c), DS.cast (m' := m_sayings_of_path board_p half_p path_p) (ds_ift (DQ.dt (dq_neS (de_call c_path_kind.ok (hr.mono (by decide)) rfl c_path_kind.mg c_path_kind.kp c_path_kind.bd passC (da_one (de_var (pv 2) rfl)) imm_str (wkN rfl)) (de_var (pv 1) rfl))) (ds_one (ds_retF (f := (fun a => a)) (de_lst (T := yCn) (dl_nil)) (fun _ => rfl))) (fun _ => rfl) (ds_one (ds_retF (f := (fun a => a)) (de_callF c_sayings_of_row.ok (hr.mono (by decide)) rfl c_sayings_of_row.mg c_sayings_of_row.kp c_sayings_of_row.bd passC (da_cons (de_call c_slot_of.ok (hr.mono (by decide)) rfl c_slot_of.mg c_slot_of.kp c_slot_of.bd passC (da_cons (de_var (pv 0) rfl) (da_cons (de_var (pv 1) rfl) (da_one (de_ixT (de_var (pv 2) rfl) (de_c (T := yInt) (a := (0 : Int)) pe_int (fun _ => rfl)))))) imm_int (wkN rfl)) (da_one (de_var (pv 2) rfl))) (imm_cLst (imm_tup (imm_C imm_int (imm_1 imm_int)))) (wkN rfl)) (fun _ => rfl)))) (by unfold m_sayings_of_path; simp only [bo, isIn_dec, andok, orok]), fun _ => .inl rfl⟩
def m_sayings_of_paths (board_p : (Int × Int)) (half_p : PySem.Str) (paths_p : (List (List (Int × Int)))) : R Er (List ((Int × Int) × Int)) := (R.ok ([] : List ((Int × Int) × Int))).bind fun (first_1 : (List ((Int × Int) × Int))) =>
  (((rRng 0 (List.length paths_p : Int))).bind fun v12 => forS (fun (i_2 : Int) (s3 : (List ((Int × Int) × Int))) => ((((((rIx paths_p i_2)).bind fun v4 => R.ok (half_p, v4)).bind fun v5 => R.ok (board_p, v5)).bind fun v6 => (m_sayings_of_path v6.1 v6.2.1 v6.2.2)).bind fun v10 => forS (fun (saying_7 : (Int × Int)) (s8 : (List ((Int × Int) × Int))) => if (!dhas s8 saying_7) then (((rApp s8 (saying_7, i_2))).bind fun (c9 : ((Int × Int) × Int)) =>
  R.ok (dput s8 c9.1 c9.2)) else
  (R.ok s8)) v10 s3).bind fun (s11 : (List ((Int × Int) × Int))) =>
  R.ok s11) v12 first_1).bind fun (s13 : (List ((Int × Int) × Int))) =>
  R.ok s13
abbrev sp_sayings_of_paths (P : Program) (w : World) (K : PySem.W.Frag) : Sp := spD (K := K) EX (tysC yCn (tysC yStr (tys1 (ySq (yTupOf yCn))))) (qF (K := K) (cDic P w (kTup (ksC kInt (ks1 kInt))) yInt)) (fun a => m_sayings_of_paths a.1 a.2.1 a.2.2)
theorem sc_sayings_of_paths : FnScope ["board", "half", "paths", "first", "i", "saying"] ["board", "half", "paths"] (defScope s_sayings_of_paths) := ⟨rfl, rfl, rfl, by decide +kernel, rfl, by decide +kernel, by decide +kernel⟩
theorem ok_sayings_of_paths {P : Program} {w : World} {K : PySem.W.Frag} {mg : Str → Option Value} {base : Heap} {f : Addr} {fd : FuncData} (F : FnP K "sayings_of_paths" s_sayings_of_paths f fd) (c_sayings_of_path : Cal P w K mg base CX 3 "sayings_of_path" ["board", "half", "path"] (sp_sayings_of_path P w K)) (bt : Bt mg) : FnOk P w K mg base CX 4 f fd ["board", "half", "paths"] (sp_sayings_of_paths P w K) := by
  refine fn_ok F sc_sayings_of_paths (entC (entC (ent1 rfl))) rfl fun cdv A outer s H E hr a => ?_
  obtain ⟨board_p, half_p, paths_p⟩ := a
  have sc := sc_sayings_of_paths
  exact ⟨_, fun c => .rt (qF (K := K) (cDic P w (kTup (ksC kInt (ks1 kInt))) yInt) c), DS.cast (m' := m_sayings_of_paths board_p half_p paths_p) (ds_cons (ρ1 := fun (first_1 : (List ((Int × Int) × Int))) => [some (.pl yCn board_p), some (.pl yStr half_p), some (.pl (ySq (yTupOf yCn)) paths_p), some (.ow (cDic P w (kTup (ksC kInt (ks1 kInt))) yInt) first_1), none, none]) (ds_setF (i := 3) sc.nd rfl (.inl rfl) (de_newN (k := (kTup (ksC kInt (ks1 kInt)))) (U := yInt))) (fun (first_1 : (List ((Int × Int) × Int))) => ds_cons (ρ1 := fun (s13 : (List ((Int × Int) × Int))) => [some (.pl yCn board_p), some (.pl yStr half_p), some (.pl (ySq (yTupOf yCn)) paths_p), some (.ow (cDic P w (kTup (ksC kInt (ks1 kInt))) yInt) s13), none, none]) (ds_forS (eH := fun (s3 : (List ((Int × Int) × Int))) => [some (.pl yCn board_p), some (.pl yStr half_p), some (.pl (ySq (yTupOf yCn)) paths_p), some (.ow (cDic P w (kTup (ksC kInt (ks1 kInt))) yInt) s3), none, none]) (eB := fun (s3 : (List ((Int × Int) × Int))) (i_2 : Int) => [some (.pl yCn board_p), some (.pl yStr half_p), some (.pl (ySq (yTupOf yCn)) paths_p), some (.ow (cDic P w (kTup (ksC kInt (ks1 kInt))) yInt) s3), some (.pl yInt i_2), none]) (a0 := first_1) (passes_of rfl) rfl (di_range1 rfl bt.range (de_len len_sq rfl bt.len (de_var (pv 2) rfl))) (.keep (.keep (.keep (.keep (.keep (.keep .nil)))))) (fun (s3 : (List ((Int × Int) × Int))) => dg_name (pg_name (i := 4) sc.nd rfl (.inl rfl))) (fun (s3 : (List ((Int × Int) × Int))) (i_2 : Int) => ds_cons (ρ1 := fun (s11 : (List ((Int × Int) × Int))) => [some (.pl yCn board_p), some (.pl yStr half_p), some (.pl (ySq (yTupOf yCn)) paths_p), some (.ow (cDic P w (kTup (ksC kInt (ks1 kInt))) yInt) s11), some (.pl yInt i_2), none]) (ds_forS (eH := fun (s8 : (List ((Int × Int) × Int))) => [some (.pl yCn board_p), some (.pl yStr half_p), some (.pl (ySq (yTupOf yCn)) paths_p), some (.ow (cDic P w (kTup (ksC kInt (ks1 kInt))) yInt) s8), some (.pl yInt i_2), none]) (eB := fun (s8 : (List ((Int × Int) × Int))) (saying_7 : (Int × Int)) => [some (.pl yCn board_p), some (.pl yStr half_p), some (.pl (ySq (yTupOf yCn)) paths_p), some (.ow (cDic P w (kTup (ksC kInt (ks1 kInt))) yInt) s8), some (.pl yInt i_2), some (.pl yCn saying_7)]) (a0 := s3) (passes_of rfl) rfl (di_list (DE.fpL (de_callF c_sayings_of_path.ok (hr.mono (by decide)) rfl c_sayings_of_path.mg c_sayings_of_path.kp c_sayings_of_path.bd passC (da_cons (de_var (pv 0) rfl) (da_cons (de_var (pv 1) rfl) (da_one (de_ixQ (de_var (pv 2) rfl) (de_var (pv 4) rfl))))) (imm_cLst (imm_tup (imm_C imm_int (imm_1 imm_int)))) (wkN rfl)))) (.keep (.keep (.keep (.keep (.keep (.keep .nil)))))) (fun (s8 : (List ((Int × Int) × Int))) => dg_name (pg_name (i := 5) sc.nd rfl (.inl rfl))) (fun (s8 : (List ((Int × Int) × Int))) (saying_7 : (Int × Int)) => ds_one (ds_if1 (DQ.dt (dq_notInN ar_tup (u64 hr) (de_var (pv 5) rfl) (de_ownD (pv 3) rfl))) (ds_cons (ρ1 := fun (c9 : ((Int × Int) × Int)) => [some (.pl yCn board_p), some (.pl yStr half_p), some (.pl (ySq (yTupOf yCn)) paths_p), some (.ow (cDic P w (kTup (ksC kInt (ks1 kInt))) yInt) (dput s8 c9.1 c9.2)), some (.pl yInt i_2), some (.pl yCn saying_7)]) (ds_setN ar_tup (u64 hr) (pv 3) rfl (de_var (pv 5) rfl) (de_var (pv 4) rfl)) (fun (c9 : ((Int × Int) × Int)) => ds_nil (c := (dput s8 c9.1 c9.2)) (by first | exact .inl rfl | exact .inr rfl) (.keep (.keep (.keep (.keep (.keep (.drop .nil)))))))) (ds_nil (c := s8) (by first | exact .inl rfl | exact .inr rfl) (.keep (.keep (.keep (.keep (.keep (.drop .nil)))))))))) (fun (s11 : (List ((Int × Int) × Int))) => ds_nil (c := s11) (by first | exact .inl rfl | exact .inr rfl) (.keep (.keep (.keep (.keep (.drop (.keep .nil))))))))) (fun (s13 : (List ((Int × Int) × Int))) => ds_one (ds_retO (c := s13) (pv 3) rfl rfl)))) (by unfold m_sayings_of_paths; simp only [bo, isIn_dec, andok, orok]), fun _ => .inl rfl⟩
def m_said (board_p : (Int × Int)) (half_p : PySem.Str) (paths_p : (List (List (Int × Int)))) : R Er (List (Int × Int)) := ((((m_sayings_of_paths board_p half_p paths_p)).bind fun v1 => R.ok (dkeys v1)).bind fun v2 => R.ok (sortD (fun (a : (Int × Int)) => (PyData.tuple [(PyData.int a.1), (PyData.int a.2)])) v2)).bind fun v3 => R.ok v3
abbrev sp_said (P : Program) (w : World) (K : PySem.W.Frag) : Sp := spD (K := K) EX (tysC yCn (tysC yStr (tys1 (ySq (yTupOf yCn))))) (qF (K := K) (cLst yCn)) (fun a => m_said a.1 a.2.1 a.2.2)
theorem sc_said : FnScope ["board", "half", "paths"] ["board", "half", "paths"] (defScope s_said) := ⟨rfl, rfl, rfl, by decide +kernel, rfl, by decide +kernel, by decide +kernel⟩
theorem ok_said {P : Program} {w : World} {K : PySem.W.Frag} {mg : Str → Option Value} {base : Heap} {f : Addr} {fd : FuncData} (F : FnP K "said" s_said f fd) (c_sayings_of_paths : Cal P w K mg base CX 4 "sayings_of_paths" ["board", "half", "paths"] (sp_sayings_of_paths P w K)) (bt : Bt mg) : FnOk P w K mg base CX 5 f fd ["board", "half", "paths"] (sp_said P w K) := by
  refine fn_ok F sc_said (entC (entC (ent1 rfl))) rfl fun cdv A outer s H E hr a => ?_
  obtain ⟨board_p, half_p, paths_p⟩ := a
  have sc := sc_said
  exact ⟨_, fun c => .rt (qF (K := K) (cLst yCn) c), DS.cast (m' := m_said board_p half_p paths_p) (ds_one (ds_retF (f := (fun a => a)) (de_sortedD (P := (pTup (psC pInt (ps1 pInt)))) (py := (fun (a : (Int × Int)) => (PyData.tuple [(PyData.int a.1), (PyData.int a.2)]))) (fun _ => rfl) (fun _ _ => rfl) (fun _ => ⟨_, _, rfl⟩) (imm_tup (imm_C imm_int (imm_1 imm_int))) (u64 hr) rfl bt.sorted (DE.fpL (de_listD rfl (imm_tup (imm_C imm_int (imm_1 imm_int))) rfl bt.list (DE.fp (de_callF c_sayings_of_paths.ok (hr.mono (by decide)) rfl c_sayings_of_paths.mg c_sayings_of_paths.kp c_sayings_of_paths.bd passC (da_cons (de_var (pv 0) rfl) (da_cons (de_var (pv 1) rfl) (da_one (de_var (pv 2) rfl)))) (imm_cDic (imm_tup (imm_C imm_int (imm_1 imm_int))) imm_int) (wkN rfl)) (fun h => h))))) (fun _ => rfl))) (by unfold m_said; simp only [bo, isIn_dec, andok, orok]), fun _ => .inl rfl⟩
def m_is_integer (told_p : Int) : R Er Bool := R.ok (true && (!false))
abbrev sp_is_integer (P : Program) (w : World) (K : PySem.W.Frag) : Sp := spD (K := K) EX (tys1 yInt) (qP (K := K) yBl) (fun a => m_is_integer a)
theorem sc_is_integer : FnScope ["_law_told"] ["_law_told"] (defScope s_is_integer) := ⟨rfl, rfl, rfl, by decide +kernel, rfl, by decide +kernel, by decide +kernel⟩
theorem ok_is_integer {P : Program} {w : World} {K : PySem.W.Frag} {mg : Str → Option Value} {base : Heap} {f : Addr} {fd : FuncData} (F : FnP K "_law_is_integer" s_is_integer f fd) (bt : Bt mg) : FnOk P w K mg base CX 1 f fd ["_law_told"] (sp_is_integer P w K) := by
  refine fn_ok F sc_is_integer (ent1 rfl) rfl fun cdv A outer s H E hr told_p => ?_
  have sc := sc_is_integer
  exact ⟨_, fun c => .rt (qP (K := K) yBl c), DS.cast (m' := m_is_integer told_p) (ds_one (ds_ret (f := (fun a => a)) (de_and (DQ.de (dq_isi (cls := "int") (isi_int (b := true) (by decide +kernel)) rfl bt.isinstance (by decide +kernel) rfl bt.int (by decide +kernel) (de_var (pv 0) rfl))) (de_one (de_not (DQ.de (dq_isi (cls := "bool") (isi_int (b := false) (by decide +kernel)) rfl bt.isinstance (by decide +kernel) rfl bt.bool (by decide +kernel) (de_var (pv 0) rfl)))))) (fun _ => rfl))) (by unfold m_is_integer; simp only [bo, isIn_dec, andok, orok]), fun _ => .inl rfl⟩
def m_is_corner (told_p : (Int × Int)) : R Er Bool := ((if true then (if (decide (((2 : Nat) : Int) = (2 : Int))) then ((m_is_integer told_p.1)).bind fun v1 => (if v1 then (m_is_integer told_p.2) else R.ok false) else R.ok false) else R.ok false)).bind fun v2 => R.ok v2
abbrev sp_is_corner (P : Program) (w : World) (K : PySem.W.Frag) : Sp := spD (K := K) EX (tys1 yCn) (qP (K := K) yBl) (fun a => m_is_corner a)
theorem sc_is_corner : FnScope ["_law_told"] ["_law_told"] (defScope s_is_corner) := ⟨rfl, rfl, rfl, by decide +kernel, rfl, by decide +kernel, by decide +kernel⟩
theorem ok_is_corner {P : Program} {w : World} {K : PySem.W.Frag} {mg : Str → Option Value} {base : Heap} {f : Addr} {fd : FuncData} (F : FnP K "_law_is_corner" s_is_corner f fd) (c_is_integer : Cal P w K mg base CX 1 "_law_is_integer" ["_law_told"] (sp_is_integer P w K)) (bt : Bt mg) : FnOk P w K mg base CX 2 f fd ["_law_told"] (sp_is_corner P w K) := by
  refine fn_ok F sc_is_corner (ent1 rfl) rfl fun cdv A outer s H E hr told_p => ?_
  have sc := sc_is_corner
  exact ⟨_, fun c => .rt (qP (K := K) yBl c), DS.cast (m' := m_is_corner told_p) (ds_one (ds_ret (f := (fun a => a)) (de_and (DQ.de (dq_isi (cls := "tuple") (isi_tup (b := true) (by decide +kernel)) rfl bt.isinstance (by decide +kernel) rfl bt.tuple (by decide +kernel) (de_var (pv 0) rfl))) (de_and (DQ.de (dq_eqI (de_len (len_tupN (n := 2) rfl) rfl bt.len (de_var (pv 0) rfl)) (de_c (T := yInt) (a := (2 : Int)) pe_int (fun _ => rfl)))) (de_and (de_call c_is_integer.ok (hr.mono (by decide)) rfl c_is_integer.mg c_is_integer.kp c_is_integer.bd passC (da_one (de_nth (de_var (pv 0) rfl) nth_0)) imm_bl (wkN rfl)) (de_one (de_call c_is_integer.ok (hr.mono (by decide)) rfl c_is_integer.mg c_is_integer.kp c_is_integer.bd passC (da_one (de_nth (de_var (pv 0) rfl) (nth_s nth_1))) imm_bl (wkN rfl)))))) (fun _ => rfl))) (by unfold m_is_corner; simp only [bo, isIn_dec, andok, orok]), fun _ => .inl rfl⟩
def m_is_row (told_p : (List (Int × Int))) (wanted_p : (List (Int × Int))) : R Er Bool := if ((!true) || (!decide ((List.length told_p : Int) = (List.length wanted_p : Int)))) then (R.ok false) else
  (R.seqX (((rRng 0 (List.length wanted_p : Int))).bind fun v9 => forX (fun (k_1 : Int) (s2 : Unit) => (((((rIx told_p k_1)).bind fun v3 => (m_is_corner v3)).bind fun v4 => R.ok (!v4)).bind fun v7 => (if v7 then R.ok true else ((rIx told_p k_1)).bind fun v5 => ((rIx wanted_p k_1)).bind fun v6 => R.ok (!decide (v5 = v6)))).bind fun v8 => if v8 then (R.ok (.inr false)) else
  (R.ok (.inl ()))) v9 ()) (fun a => a) fun (s10 : Unit) =>
  R.ok true)
abbrev sp_is_row (P : Program) (w : World) (K : PySem.W.Frag) : Sp := spD (K := K) EX (tysC (yLst yCn) (tys1 (yLst yCn))) (qP (K := K) yBl) (fun a => m_is_row a.1 a.2)
theorem sc_is_row : FnScope ["_law_told", "_law_wanted", "_law_k"] ["_law_told", "_law_wanted"] (defScope s_is_row) := ⟨rfl, rfl, rfl, by decide +kernel, rfl, by decide +kernel, by decide +kernel⟩
theorem ok_is_row {P : Program} {w : World} {K : PySem.W.Frag} {mg : Str → Option Value} {base : Heap} {f : Addr} {fd : FuncData} (F : FnP K "_law_is_row" s_is_row f fd) (c_is_corner : Cal P w K mg base CX 2 "_law_is_corner" ["_law_told"] (sp_is_corner P w K)) (bt : Bt mg) : FnOk P w K mg base CX 3 f fd ["_law_told", "_law_wanted"] (sp_is_row P w K) := by
  refine fn_ok F sc_is_row (entC (ent1 rfl)) rfl fun cdv A outer s H E hr a => ?_
  obtain ⟨told_p, wanted_p⟩ := a
  have sc := sc_is_row
  exact ⟨_, fun c => .rt (qP (K := K) yBl c), DS.cast (m' := m_is_row told_p wanted_p) (ds_ift (DW.dt (dw_or (dt_not (DQ.dt (dq_isi (cls := "list") (isi_lst (b := true) (by decide +kernel)) rfl bt.isinstance (by decide +kernel) rfl bt.list (by decide +kernel) (de_var (pv 0) rfl)))) (dw_or1 (DQ.dt (dq_neI (de_len len_lst rfl bt.len (de_var (pv 0) rfl)) (de_len len_lst rfl bt.len (de_var (pv 1) rfl))))))) (ds_one (ds_ret (f := (fun a => a)) (de_c (T := yBl) (a := false) pe_bl (fun _ => rfl)) (fun _ => rfl))) (fun _ => rfl) (ds_seqX (f := (fun a => a)) (ρ1 := fun (s10 : Unit) => [some (.pl (yLst yCn) told_p), some (.pl (yLst yCn) wanted_p), none]) (ds_forX (eH := fun (s2 : Unit) => [some (.pl (yLst yCn) told_p), some (.pl (yLst yCn) wanted_p), none]) (eB := fun (s2 : Unit) (k_1 : Int) => [some (.pl (yLst yCn) told_p), some (.pl (yLst yCn) wanted_p), some (.pl yInt k_1)]) (a0 := ()) (passes_of rfl) rfl (di_range1 rfl bt.range (de_len len_lst rfl bt.len (de_var (pv 1) rfl))) (.keep (.keep (.keep .nil))) (fun (s2 : Unit) => dg_name (pg_name (i := 2) sc.nd rfl (.inl rfl))) (fun _ => ⟨_, rfl⟩) (fun (s2 : Unit) (k_1 : Int) => ds_one (ds_if1 (DW.dt (dw_or (dt_not (dt_val (de_call c_is_corner.ok (hr.mono (by decide)) rfl c_is_corner.mg c_is_corner.kp c_is_corner.bd passC (da_one (de_ixL (de_var (pv 0) rfl) (de_var (pv 2) rfl))) imm_bl (wkN rfl)))) (dw_or1 (DQ.dt (dq_ne (q_tup (q_C q_int (q_1 q_int))) (u64 hr) (lo rfl) (lo rfl) (de_ixL (de_var (pv 0) rfl) (de_var (pv 2) rfl)) (de_ixL (de_var (pv 1) rfl) (de_var (pv 2) rfl))))))) (ds_one (ds_ret (f := (fun a => (.inr a))) (de_c (T := yBl) (a := false) pe_bl (fun _ => rfl)) (fun _ => rfl))) (ds_nil (c := (.inl ())) (by first | exact .inl rfl | exact .inr rfl) (.keep (.keep (.drop .nil))))))) (fun (s10 : Unit) => ds_one (ds_ret (f := (fun a => a)) (de_c (T := yBl) (a := true) pe_bl (fun _ => rfl)) (fun _ => rfl))) (fun x => by first | exact ⟨rfl, trivial⟩ | (cases x <;> exact ⟨rfl, trivial⟩)))) (by unfold m_is_row; simp only [bo, isIn_dec, andok, orok]), fun _ => .inl rfl⟩
def m_certificates (cell_here_p : Int) (rings_here_p : (List (Int × Int × Int × Int))) (count_p : Int) (size_p : Int) : R Er (List (List Int)) := ((m_draws cell_here_p ([(2003 : Int), (4 : Int), (count_p + (5 : Int)), (count_p + (5 : Int)), (size_p + (5 : Int)), (size_p + (5 : Int))] : List Int))).bind fun (d_1 : (List Int)) =>
  ((((rIx d_1 (2 : Int))).bind fun v3 => R.ok (v3 - (2 : Int))).bind fun v12 => ((((rIx d_1 (3 : Int))).bind fun v4 => R.ok (v4 - (2 : Int))).bind fun v10 => ((((rIx d_1 (4 : Int))).bind fun v5 => R.ok (v5 - (2 : Int))).bind fun v8 => ((((rIx d_1 (5 : Int))).bind fun v6 => R.ok (v6 - (2 : Int))).bind fun v7 => R.ok (v7 :: ([] : List Int))).bind fun v9 => R.ok (v8 :: v9)).bind fun v11 => R.ok (v10 :: v11)).bind fun v13 => R.ok (v12 :: v13)).bind fun (numbers_2 : (List Int)) =>
  (R.ok ([numbers_2] : List (List Int))).bind fun (found_14 : (List (List Int))) =>
  (if (decide ((0 : Int) < (List.length rings_here_p : Int))) then (((((rIx d_1 (0 : Int))).bind fun v17 => (rMod v17 (List.length rings_here_p : Int))).bind fun v18 => (rIx rings_here_p v18)).bind fun (ring_16 : (Int × Int × Int × Int)) =>
  (R.ok ring_16.1).bind fun (i_19 : Int) =>
  (R.ok ring_16.2.1).bind fun (j_20 : Int) =>
  (R.ok ring_16.2.2.1).bind fun (s_21 : Int) =>
  (R.ok ring_16.2.2.2).bind fun (t_22 : Int) =>
  ((rCatL found_14 ([([ring_16.1, ring_16.2.1, ring_16.2.2.1, ring_16.2.2.2] : List Int), ([(j_20, i_19, t_22, s_21).1, (j_20, i_19, t_22, s_21).2.1, (j_20, i_19, t_22, s_21).2.2.1, (j_20, i_19, t_22, s_21).2.2.2] : List Int), ([(j_20, i_19, s_21, t_22).1, (j_20, i_19, s_21, t_22).2.1, (j_20, i_19, s_21, t_22).2.2.1, (j_20, i_19, s_21, t_22).2.2.2] : List Int), ([(i_19, j_20, t_22, s_21).1, (i_19, j_20, t_22, s_21).2.1, (i_19, j_20, t_22, s_21).2.2.1, (i_19, j_20, t_22, s_21).2.2.2] : List Int)] : List (List Int)))).bind fun (found_23 : (List (List Int))) =>
  ((rCatL found_23 ([([((i_19 - count_p), j_20, s_21, t_22).1, ((i_19 - count_p), j_20, s_21, t_22).2.1, ((i_19 - count_p), j_20, s_21, t_22).2.2.1, ((i_19 - count_p), j_20, s_21, t_22).2.2.2] : List Int), ([(i_19, (j_20 - count_p), s_21, t_22).1, (i_19, (j_20 - count_p), s_21, t_22).2.1, (i_19, (j_20 - count_p), s_21, t_22).2.2.1, (i_19, (j_20 - count_p), s_21, t_22).2.2.2] : List Int), ([((i_19 + count_p), j_20, s_21, t_22).1, ((i_19 + count_p), j_20, s_21, t_22).2.1, ((i_19 + count_p), j_20, s_21, t_22).2.2.1, ((i_19 + count_p), j_20, s_21, t_22).2.2.2] : List Int), ([(i_19, (j_20 + count_p), s_21, t_22).1, (i_19, (j_20 + count_p), s_21, t_22).2.1, (i_19, (j_20 + count_p), s_21, t_22).2.2.1, (i_19, (j_20 + count_p), s_21, t_22).2.2.2] : List Int)] : List (List Int)))).bind fun (found_24 : (List (List Int))) =>
  (R.ok ([ring_16.1, ring_16.2.1, ring_16.2.2.1, ring_16.2.2.2] : List Int)).bind fun (near_25 : (List Int)) =>
  ((((rIx d_1 (1 : Int))).bind fun v26 => (rIx numbers_2 v26)).bind fun v28 => ((rIx d_1 (1 : Int))).bind fun v29 => (rSetIx near_25 v29 v28)).bind fun (near_27 : (Nat × Int)) =>
  ((rApp found_24 (List.set near_25 near_27.1 near_27.2))).bind fun (c31 : (List Int)) =>
  R.ok (found_24 ++ [c31])) else
  (R.ok found_14)).bind fun (s15 : (List (List Int))) =>
  R.ok s15
abbrev sp_certificates (P : Program) (w : World) (K : PySem.W.Frag) : Sp := spD (K := K) EX (tysC yInt (tysC (yLst (yTup (tysC yInt (tysC yInt (tysC yInt (tys1 yInt)))))) (tysC yInt (tys1 yInt)))) (qF (K := K) (cLst (yTupOf yInt))) (fun a => m_certificates a.1 a.2.1 a.2.2.1 a.2.2.2)
theorem sc_certificates : FnScope ["_law_cell_here", "_law_rings_here", "_law_count", "_law_size", "_law_d", "_law_numbers", "_law_found", "_law_ring", "_law_i", "_law_j", "_law_s", "_law_t", "_law_near"] ["_law_cell_here", "_law_rings_here", "_law_count", "_law_size"] (defScope s_certificates) := ⟨rfl, rfl, rfl, by decide +kernel, rfl, by decide +kernel, by decide +kernel⟩
theorem ok_certificates {P : Program} {w : World} {K : PySem.W.Frag} {mg : Str → Option Value} {base : Heap} {f : Addr} {fd : FuncData} (F : FnP K "_law_certificates" s_certificates f fd) (c_draws : Cal P w K mg base CX 1 "_law_draws" ["_law_cell_here", "_law_sizes"] (sp_draws P w K)) (bt : Bt mg) : FnOk P w K mg base CX 2 f fd ["_law_cell_here", "_law_rings_here", "_law_count", "_law_size"] (sp_certificates P w K) := by
  refine fn_ok F sc_certificates (entC (entC (entC (ent1 rfl)))) rfl fun cdv A outer s H E hr a => ?_
  obtain ⟨cell_here_p, rings_here_p, count_p, size_p⟩ := a
  have sc := sc_certificates
  exact ⟨_, fun c => .rt (qF (K := K) (cLst (yTupOf yInt)) c), DS.cast (m' := m_certificates cell_here_p rings_here_p count_p size_p) (ds_cons (ρ1 := fun (d_1 : (List Int)) => [some (.pl yInt cell_here_p), some (.pl (yLst (yTup (tysC yInt (tysC yInt (tysC yInt (tys1 yInt)))))) rings_here_p), some (.pl yInt count_p), some (.pl yInt size_p), some (.ow (cLst yInt) d_1), none, none, none, none, none, none, none, none]) (ds_setF (i := 4) sc.nd rfl (.inl rfl) (de_callF c_draws.ok (hr.mono (by decide)) rfl c_draws.mg c_draws.kp c_draws.bd passC (da_cons (de_var (pv 0) rfl) (da_one (DE.fpL (de_lst (T := yInt) (dl_cons (de_c (T := yInt) (a := (2003 : Int)) pe_int (fun _ => rfl)) (dl_cons (de_c (T := yInt) (a := (4 : Int)) pe_int (fun _ => rfl)) (dl_cons (de_add (de_var (pv 2) rfl) (de_c (T := yInt) (a := (5 : Int)) pe_int (fun _ => rfl))) (dl_cons (de_add (de_var (pv 2) rfl) (de_c (T := yInt) (a := (5 : Int)) pe_int (fun _ => rfl))) (dl_cons (de_add (de_var (pv 3) rfl) (de_c (T := yInt) (a := (5 : Int)) pe_int (fun _ => rfl))) (dl_cons (de_add (de_var (pv 3) rfl) (de_c (T := yInt) (a := (5 : Int)) pe_int (fun _ => rfl))) (dl_nil))))))))))) (imm_cLst imm_int) (wkN rfl))) (fun (d_1 : (List Int)) => ds_cons (ρ1 := fun (numbers_2 : (List Int)) => [some (.pl yInt cell_here_p), some (.pl (yLst (yTup (tysC yInt (tysC yInt (tysC yInt (tys1 yInt)))))) rings_here_p), some (.pl yInt count_p), some (.pl yInt size_p), some (.ow (cLst yInt) d_1), some (.ow (cLst yInt) numbers_2), none, none, none, none, none, none, none]) (ds_setF (i := 5) sc.nd rfl (.inl rfl) (de_lst (T := yInt) (dl_cons (de_sub (de_ixL (de_ownL (pv 4) rfl) (de_c (T := yInt) (a := (2 : Int)) pe_int (fun _ => rfl))) (de_c (T := yInt) (a := (2 : Int)) pe_int (fun _ => rfl))) (dl_cons (de_sub (de_ixL (de_ownL (pv 4) rfl) (de_c (T := yInt) (a := (3 : Int)) pe_int (fun _ => rfl))) (de_c (T := yInt) (a := (2 : Int)) pe_int (fun _ => rfl))) (dl_cons (de_sub (de_ixL (de_ownL (pv 4) rfl) (de_c (T := yInt) (a := (4 : Int)) pe_int (fun _ => rfl))) (de_c (T := yInt) (a := (2 : Int)) pe_int (fun _ => rfl))) (dl_cons (de_sub (de_ixL (de_ownL (pv 4) rfl) (de_c (T := yInt) (a := (5 : Int)) pe_int (fun _ => rfl))) (de_c (T := yInt) (a := (2 : Int)) pe_int (fun _ => rfl))) (dl_nil))))))) (fun (numbers_2 : (List Int)) => ds_cons (ρ1 := fun (found_14 : (List (List Int))) => [some (.pl yInt cell_here_p), some (.pl (yLst (yTup (tysC yInt (tysC yInt (tysC yInt (tys1 yInt)))))) rings_here_p), some (.pl yInt count_p), some (.pl yInt size_p), some (.ow (cLst yInt) d_1), some (.ow (cLst yInt) numbers_2), some (.ow (cLst (yTupOf yInt)) found_14), none, none, none, none, none, none]) (ds_setF (i := 6) sc.nd rfl (.inl rfl) (de_lst (T := (yTupOf yInt)) (dl_cons (de_tupleL imm_int rfl bt.tuple (de_ownL (pv 5) rfl)) (dl_nil)))) (fun (found_14 : (List (List Int))) => ds_cons (ρ1 := fun (s15 : (List (List Int))) => [some (.pl yInt cell_here_p), some (.pl (yLst (yTup (tysC yInt (tysC yInt (tysC yInt (tys1 yInt)))))) rings_here_p), some (.pl yInt count_p), some (.pl yInt size_p), some (.ow (cLst yInt) d_1), some (.ow (cLst yInt) numbers_2), some (.ow (cLst (yTupOf yInt)) s15), none, none, none, none, none, none]) (ds_if1 (DQ.dt (dq_gt (de_len len_lst rfl bt.len (de_var (pv 1) rfl)) (de_c (T := yInt) (a := (0 : Int)) pe_int (fun _ => rfl)))) (ds_cons (ρ1 := fun (ring_16 : (Int × Int × Int × Int)) => [some (.pl yInt cell_here_p), some (.pl (yLst (yTup (tysC yInt (tysC yInt (tysC yInt (tys1 yInt)))))) rings_here_p), some (.pl yInt count_p), some (.pl yInt size_p), some (.ow (cLst yInt) d_1), some (.ow (cLst yInt) numbers_2), some (.ow (cLst (yTupOf yInt)) found_14), some (.pl (yTup (tysC yInt (tysC yInt (tysC yInt (tys1 yInt))))) ring_16), none, none, none, none, none]) (ds_set (i := 7) sc.nd rfl (.inl rfl) (de_ixL (de_var (pv 1) rfl) (de_mod (de_int1 rfl bt.int (de_ixL (de_ownL (pv 4) rfl) (de_c (T := yInt) (a := (0 : Int)) pe_int (fun _ => rfl)))) (de_len len_lst rfl bt.len (de_var (pv 1) rfl))))) (fun (ring_16 : (Int × Int × Int × Int)) => ds_cons (ρ1 := fun (i_19 : Int) => [some (.pl yInt cell_here_p), some (.pl (yLst (yTup (tysC yInt (tysC yInt (tysC yInt (tys1 yInt)))))) rings_here_p), some (.pl yInt count_p), some (.pl yInt size_p), some (.ow (cLst yInt) d_1), some (.ow (cLst yInt) numbers_2), some (.ow (cLst (yTupOf yInt)) found_14), some (.pl (yTup (tysC yInt (tysC yInt (tysC yInt (tys1 yInt))))) ring_16), some (.pl yInt i_19), none, none, none, none]) (ds_set (i := 8) sc.nd rfl (.inl rfl) (de_nth (de_var (pv 7) rfl) nth_0)) (fun (i_19 : Int) => ds_cons (ρ1 := fun (j_20 : Int) => [some (.pl yInt cell_here_p), some (.pl (yLst (yTup (tysC yInt (tysC yInt (tysC yInt (tys1 yInt)))))) rings_here_p), some (.pl yInt count_p), some (.pl yInt size_p), some (.ow (cLst yInt) d_1), some (.ow (cLst yInt) numbers_2), some (.ow (cLst (yTupOf yInt)) found_14), some (.pl (yTup (tysC yInt (tysC yInt (tysC yInt (tys1 yInt))))) ring_16), some (.pl yInt i_19), some (.pl yInt j_20), none, none, none]) (ds_set (i := 9) sc.nd rfl (.inl rfl) (de_nth (de_var (pv 7) rfl) (nth_s nth_0))) (fun (j_20 : Int) => ds_cons (ρ1 := fun (s_21 : Int) => [some (.pl yInt cell_here_p), some (.pl (yLst (yTup (tysC yInt (tysC yInt (tysC yInt (tys1 yInt)))))) rings_here_p), some (.pl yInt count_p), some (.pl yInt size_p), some (.ow (cLst yInt) d_1), some (.ow (cLst yInt) numbers_2), some (.ow (cLst (yTupOf yInt)) found_14), some (.pl (yTup (tysC yInt (tysC yInt (tysC yInt (tys1 yInt))))) ring_16), some (.pl yInt i_19), some (.pl yInt j_20), some (.pl yInt s_21), none, none]) (ds_set (i := 10) sc.nd rfl (.inl rfl) (de_nth (de_var (pv 7) rfl) (nth_s (nth_s nth_0)))) (fun (s_21 : Int) => ds_cons (ρ1 := fun (t_22 : Int) => [some (.pl yInt cell_here_p), some (.pl (yLst (yTup (tysC yInt (tysC yInt (tysC yInt (tys1 yInt)))))) rings_here_p), some (.pl yInt count_p), some (.pl yInt size_p), some (.ow (cLst yInt) d_1), some (.ow (cLst yInt) numbers_2), some (.ow (cLst (yTupOf yInt)) found_14), some (.pl (yTup (tysC yInt (tysC yInt (tysC yInt (tys1 yInt))))) ring_16), some (.pl yInt i_19), some (.pl yInt j_20), some (.pl yInt s_21), some (.pl yInt t_22), none]) (ds_set (i := 11) sc.nd rfl (.inl rfl) (de_nth (de_var (pv 7) rfl) (nth_s (nth_s (nth_s nth_1))))) (fun (t_22 : Int) => ds_cons (ρ1 := fun (found_23 : (List (List Int))) => [some (.pl yInt cell_here_p), some (.pl (yLst (yTup (tysC yInt (tysC yInt (tysC yInt (tys1 yInt)))))) rings_here_p), some (.pl yInt count_p), some (.pl yInt size_p), some (.ow (cLst yInt) d_1), some (.ow (cLst yInt) numbers_2), some (.ow (cLst (yTupOf yInt)) found_23), some (.pl (yTup (tysC yInt (tysC yInt (tysC yInt (tys1 yInt))))) ring_16), some (.pl yInt i_19), some (.pl yInt j_20), some (.pl yInt s_21), some (.pl yInt t_22), none]) (ds_setF (i := 6) sc.nd rfl (.inl rfl) (de_catL (imm_tupOf imm_int) (de_ownL (pv 6) rfl) (DE.fpL (de_lst (T := (yTupOf yInt)) (dl_cons (DE.as_ (U := (yTupOf yInt)) (de_var (pv 7) rfl) (Tl.rel (tl_C (tl_C (tl_C tl_1))))) (dl_cons (DE.as_ (U := (yTupOf yInt)) (de_tup (dp_cons (de_var (pv 9) rfl) (dp_cons (de_var (pv 8) rfl) (dp_cons (de_var (pv 11) rfl) (dp_one (de_var (pv 10) rfl)))))) (Tl.rel (tl_C (tl_C (tl_C tl_1))))) (dl_cons (DE.as_ (U := (yTupOf yInt)) (de_tup (dp_cons (de_var (pv 9) rfl) (dp_cons (de_var (pv 8) rfl) (dp_cons (de_var (pv 10) rfl) (dp_one (de_var (pv 11) rfl)))))) (Tl.rel (tl_C (tl_C (tl_C tl_1))))) (dl_cons (DE.as_ (U := (yTupOf yInt)) (de_tup (dp_cons (de_var (pv 8) rfl) (dp_cons (de_var (pv 9) rfl) (dp_cons (de_var (pv 11) rfl) (dp_one (de_var (pv 10) rfl)))))) (Tl.rel (tl_C (tl_C (tl_C tl_1))))) (dl_nil))))))))) (fun (found_23 : (List (List Int))) => ds_cons (ρ1 := fun (found_24 : (List (List Int))) => [some (.pl yInt cell_here_p), some (.pl (yLst (yTup (tysC yInt (tysC yInt (tysC yInt (tys1 yInt)))))) rings_here_p), some (.pl yInt count_p), some (.pl yInt size_p), some (.ow (cLst yInt) d_1), some (.ow (cLst yInt) numbers_2), some (.ow (cLst (yTupOf yInt)) found_24), some (.pl (yTup (tysC yInt (tysC yInt (tysC yInt (tys1 yInt))))) ring_16), some (.pl yInt i_19), some (.pl yInt j_20), some (.pl yInt s_21), some (.pl yInt t_22), none]) (ds_setF (i := 6) sc.nd rfl (.inl rfl) (de_catL (imm_tupOf imm_int) (de_ownL (pv 6) rfl) (DE.fpL (de_lst (T := (yTupOf yInt)) (dl_cons (DE.as_ (U := (yTupOf yInt)) (de_tup (dp_cons (de_sub (de_var (pv 8) rfl) (de_var (pv 2) rfl)) (dp_cons (de_var (pv 9) rfl) (dp_cons (de_var (pv 10) rfl) (dp_one (de_var (pv 11) rfl)))))) (Tl.rel (tl_C (tl_C (tl_C tl_1))))) (dl_cons (DE.as_ (U := (yTupOf yInt)) (de_tup (dp_cons (de_var (pv 8) rfl) (dp_cons (de_sub (de_var (pv 9) rfl) (de_var (pv 2) rfl)) (dp_cons (de_var (pv 10) rfl) (dp_one (de_var (pv 11) rfl)))))) (Tl.rel (tl_C (tl_C (tl_C tl_1))))) (dl_cons (DE.as_ (U := (yTupOf yInt)) (de_tup (dp_cons (de_add (de_var (pv 8) rfl) (de_var (pv 2) rfl)) (dp_cons (de_var (pv 9) rfl) (dp_cons (de_var (pv 10) rfl) (dp_one (de_var (pv 11) rfl)))))) (Tl.rel (tl_C (tl_C (tl_C tl_1))))) (dl_cons (DE.as_ (U := (yTupOf yInt)) (de_tup (dp_cons (de_var (pv 8) rfl) (dp_cons (de_add (de_var (pv 9) rfl) (de_var (pv 2) rfl)) (dp_cons (de_var (pv 10) rfl) (dp_one (de_var (pv 11) rfl)))))) (Tl.rel (tl_C (tl_C (tl_C tl_1))))) (dl_nil))))))))) (fun (found_24 : (List (List Int))) => ds_cons (ρ1 := fun (near_25 : (List Int)) => [some (.pl yInt cell_here_p), some (.pl (yLst (yTup (tysC yInt (tysC yInt (tysC yInt (tys1 yInt)))))) rings_here_p), some (.pl yInt count_p), some (.pl yInt size_p), some (.ow (cLst yInt) d_1), some (.ow (cLst yInt) numbers_2), some (.ow (cLst (yTupOf yInt)) found_24), some (.pl (yTup (tysC yInt (tysC yInt (tysC yInt (tys1 yInt))))) ring_16), some (.pl yInt i_19), some (.pl yInt j_20), some (.pl yInt s_21), some (.pl yInt t_22), some (.ow (cLst yInt) near_25)]) (ds_setF (i := 12) sc.nd rfl (.inl rfl) (de_list1 sq_tupOf imm_int rfl bt.list (DE.as_ (U := (yTupOf yInt)) (de_var (pv 7) rfl) (Tl.rel (tl_C (tl_C (tl_C tl_1))))))) (fun (near_25 : (List Int)) => ds_cons (ρ1 := fun (near_27 : (Nat × Int)) => [some (.pl yInt cell_here_p), some (.pl (yLst (yTup (tysC yInt (tysC yInt (tysC yInt (tys1 yInt)))))) rings_here_p), some (.pl yInt count_p), some (.pl yInt size_p), some (.ow (cLst yInt) d_1), some (.ow (cLst yInt) numbers_2), some (.ow (cLst (yTupOf yInt)) found_24), some (.pl (yTup (tysC yInt (tysC yInt (tysC yInt (tys1 yInt))))) ring_16), some (.pl yInt i_19), some (.pl yInt j_20), some (.pl yInt s_21), some (.pl yInt t_22), some (.ow (cLst yInt) (List.set near_25 near_27.1 near_27.2))]) (ds_setIx (pv 12) rfl (DE.bp (de_ixL (de_ownL (pv 4) rfl) (de_c (T := yInt) (a := (1 : Int)) pe_int (fun _ => rfl))) imm_int) (DE.bp (de_ixL (de_ownL (pv 5) rfl) (de_ixL (de_ownL (pv 4) rfl) (de_c (T := yInt) (a := (1 : Int)) pe_int (fun _ => rfl)))) imm_int)) (fun (near_27 : (Nat × Int)) => ds_cons (ρ1 := fun (c31 : (List Int)) => [some (.pl yInt cell_here_p), some (.pl (yLst (yTup (tysC yInt (tysC yInt (tysC yInt (tys1 yInt)))))) rings_here_p), some (.pl yInt count_p), some (.pl yInt size_p), some (.ow (cLst yInt) d_1), some (.ow (cLst yInt) numbers_2), some (.ow (cLst (yTupOf yInt)) (found_24 ++ [c31])), some (.pl (yTup (tysC yInt (tysC yInt (tysC yInt (tys1 yInt))))) ring_16), some (.pl yInt i_19), some (.pl yInt j_20), some (.pl yInt s_21), some (.pl yInt t_22), some (.ow (cLst yInt) (List.set near_25 near_27.1 near_27.2))]) (ds_append (pv 6) rfl (de_tupleL imm_int rfl bt.tuple (de_ownL (pv 12) rfl))) (fun (c31 : (List Int)) => ds_nil (c := (found_24 ++ [c31])) (by first | exact .inl rfl | exact .inr rfl) (.keep (.keep (.keep (.keep (.keep (.keep (.keep (.drop (.drop (.drop (.drop (.drop (.drop .nil)))))))))))))))))))))))) (ds_nil (c := found_14) (by first | exact .inl rfl | exact .inr rfl) (.keep (.keep (.keep (.keep (.keep (.keep (.keep (.keep (.keep (.keep (.keep (.keep (.keep .nil))))))))))))))) (fun (s15 : (List (List Int))) => ds_one (ds_retO (c := s15) (pv 6) rfl rfl)))))) (by unfold m_certificates; simp only [bo, isIn_dec, andok, orok]), fun _ => .inl rfl⟩
def m_is_ring_own (board_p : (Int × Int)) (half_p : PySem.Str) (paths_p : (List (List (Int × Int)))) (certificate_p : (List Int)) : R Er Bool := ((unO ((toTC (toTC (toTC toT1))) certificate_p))).bind fun (t1 : (Int × Int × Int × Int)) =>
  ((((if decide ((0 : Int) ≤ t1.1) then (R.ok (decide (t1.1 < (List.length paths_p : Int)))) else R.ok false)).bind fun v6 => R.ok (!v6)).bind fun v8 => (if v8 then R.ok true else ((if decide ((0 : Int) ≤ t1.2.1) then (R.ok (decide (t1.2.1 < (List.length paths_p : Int)))) else R.ok false)).bind fun v7 => R.ok (!v7))).bind fun v19 => if v19 then (R.ok false) else
  (((((((rIx paths_p t1.1)).bind fun v9 => R.ok (half_p, v9)).bind fun v10 => R.ok (board_p, v10)).bind fun v11 => (m_sayings_of_path v11.1 v11.2.1 v11.2.2)).bind fun v12 => R.ok (!memB (t1.2.2.1, t1.2.2.2) v12)).bind fun v18 => if v18 then (R.ok false) else
  (((((((rIx paths_p t1.2.1)).bind fun v13 => R.ok (half_p, v13)).bind fun v14 => R.ok (board_p, v14)).bind fun v15 => (m_sayings_of_path v15.1 v15.2.1 v15.2.2)).bind fun v16 => R.ok (memB (t1.2.2.2, t1.2.2.1) v16)).bind fun v17 => R.ok v17))
abbrev sp_is_ring_own (P : Program) (w : World) (K : PySem.W.Frag) : Sp := spD (K := K) EX (tysC yCn (tysC yStr (tysC (ySq (yTupOf yCn)) (tys1 (yTupOf yInt))))) (qP (K := K) yBl) (fun a => m_is_ring_own a.1 a.2.1 a.2.2.1 a.2.2.2)
theorem sc_is_ring_own : FnScope ["board", "half", "paths", "certificate", "i", "j", "s", "t"] ["board", "half", "paths", "certificate"] (defScope s_is_ring_own) := ⟨rfl, rfl, rfl, by decide +kernel, rfl, by decide +kernel, by decide +kernel⟩
theorem ok_is_ring_own {P : Program} {w : World} {K : PySem.W.Frag} {mg : Str → Option Value} {base : Heap} {f : Addr} {fd : FuncData} (F : FnP K "is_ring" s_is_ring_own f fd) (c_sayings_of_path : Cal P w K mg base CX 3 "sayings_of_path" ["board", "half", "path"] (sp_sayings_of_path P w K)) (bt : Bt mg) : FnOk P w K mg base CX 4 f fd ["board", "half", "paths", "certificate"] (sp_is_ring_own P w K) := by
  refine fn_ok F sc_is_ring_own (entC (entC (entC (ent1 rfl)))) rfl fun cdv A outer s H E hr a => ?_
  obtain ⟨board_p, half_p, paths_p, certificate_p⟩ := a
  have sc := sc_is_ring_own
  exact ⟨_, fun c => .rt (qP (K := K) yBl c), DS.cast (m' := m_is_ring_own board_p half_p paths_p certificate_p) (ds_cons (ρ1 := fun (t1 : (Int × Int × Int × Int)) => [some (.pl yCn board_p), some (.pl yStr half_p), some (.pl (ySq (yTupOf yCn)) paths_p), some (.pl (yTupOf yInt) certificate_p), some (.pl yInt t1.1), some (.pl yInt t1.2.1), some (.pl yInt t1.2.2.1), some (.pl yInt t1.2.2.2)]) (ds_asg (de_ofTup (lt_C (lt_C (lt_C lt_1))) (de_var (pv 3) rfl)) (dg_tup rfl (dgs_c (ρ' := fun (a2 : Int) => [some (.pl yCn board_p), some (.pl yStr half_p), some (.pl (ySq (yTupOf yCn)) paths_p), some (.pl (yTupOf yInt) certificate_p), some (.pl yInt a2), none, none, none]) (dg_name (pg_name (i := 4) sc.nd rfl (.inl rfl))) (fun (a2 : Int) => dgs_c (ρ' := fun (a3 : Int) => [some (.pl yCn board_p), some (.pl yStr half_p), some (.pl (ySq (yTupOf yCn)) paths_p), some (.pl (yTupOf yInt) certificate_p), some (.pl yInt a2), some (.pl yInt a3), none, none]) (dg_name (pg_name (i := 5) sc.nd rfl (.inl rfl))) (fun (a3 : Int) => dgs_c (ρ' := fun (a4 : Int) => [some (.pl yCn board_p), some (.pl yStr half_p), some (.pl (ySq (yTupOf yCn)) paths_p), some (.pl (yTupOf yInt) certificate_p), some (.pl yInt a2), some (.pl yInt a3), some (.pl yInt a4), none]) (dg_name (pg_name (i := 6) sc.nd rfl (.inl rfl))) (fun (a4 : Int) => dgs_1 (ρ' := fun (a5 : Int) => [some (.pl yCn board_p), some (.pl yStr half_p), some (.pl (ySq (yTupOf yCn)) paths_p), some (.pl (yTupOf yInt) certificate_p), some (.pl yInt a2), some (.pl yInt a3), some (.pl yInt a4), some (.pl yInt a5)]) (dg_name (pg_name (i := 7) sc.nd rfl (.inl rfl))))))))) (fun (t1 : (Int × Int × Int × Int)) => ds_ift (DW.dt (dw_or (dt_not (DQ.dt (dq_chain op_le op_lt (de_c (T := yInt) (a := (0 : Int)) pe_int (fun _ => rfl)) (de_var (pv 4) rfl) (de_len len_sq rfl bt.len (de_var (pv 2) rfl))))) (dw_or1 (dt_not (DQ.dt (dq_chain op_le op_lt (de_c (T := yInt) (a := (0 : Int)) pe_int (fun _ => rfl)) (de_var (pv 5) rfl) (de_len len_sq rfl bt.len (de_var (pv 2) rfl)))))))) (ds_one (ds_ret (f := (fun a => a)) (de_c (T := yBl) (a := false) pe_bl (fun _ => rfl)) (fun _ => rfl))) (fun _ => rfl) (ds_ift (DQ.dt (dq_notInL (q_tup (q_C q_int (q_1 q_int))) (u65 hr) (lo rfl) (de_tup (dp_cons (de_var (pv 6) rfl) (dp_one (de_var (pv 7) rfl)))) (DE.fpL (de_callF c_sayings_of_path.ok (hr.mono (by decide)) rfl c_sayings_of_path.mg c_sayings_of_path.kp c_sayings_of_path.bd passC (da_cons (de_var (pv 0) rfl) (da_cons (de_var (pv 1) rfl) (da_one (de_ixQ (de_var (pv 2) rfl) (de_var (pv 4) rfl))))) (imm_cLst (imm_tup (imm_C imm_int (imm_1 imm_int)))) (wkN rfl))))) (ds_one (ds_ret (f := (fun a => a)) (de_c (T := yBl) (a := false) pe_bl (fun _ => rfl)) (fun _ => rfl))) (fun _ => rfl) (ds_one (ds_ret (f := (fun a => a)) (DQ.de (dq_inL (q_tup (q_C q_int (q_1 q_int))) (u65 hr) (lo rfl) (de_tup (dp_cons (de_var (pv 7) rfl) (dp_one (de_var (pv 6) rfl)))) (DE.fpL (de_callF c_sayings_of_path.ok (hr.mono (by decide)) rfl c_sayings_of_path.mg c_sayings_of_path.kp c_sayings_of_path.bd passC (da_cons (de_var (pv 0) rfl) (da_cons (de_var (pv 1) rfl) (da_one (de_ixQ (de_var (pv 2) rfl) (de_var (pv 5) rfl))))) (imm_cLst (imm_tup (imm_C imm_int (imm_1 imm_int)))) (wkN rfl))))) (fun _ => rfl)))))) (by unfold m_is_ring_own; simp only [bo, isIn_dec, andok, orok]), fun _ => .inl rfl⟩
def m_is_ring (told_p : (List Int)) (says_p : (List (List (Int × Int)))) : R Er Bool := if ((!true) || (!decide ((List.length told_p : Int) = (4 : Int)))) then (R.ok false) else
  (R.seqX (forX (fun (number_1 : Int) (s2 : Unit) => (((m_is_integer number_1)).bind fun v3 => R.ok (!v3)).bind fun v4 => if v4 then (R.ok (.inr false)) else
  (R.ok (.inl ()))) told_p ()) (fun a => a) fun (s5 : Unit) =>
  (((((rIx told_p (0 : Int))).bind fun v6 => (if decide ((0 : Int) ≤ v6) then (R.ok (decide (v6 < (List.length says_p : Int)))) else R.ok false)).bind fun v7 => R.ok (!v7)).bind fun v10 => (if v10 then R.ok true else (((rIx told_p (1 : Int))).bind fun v8 => (if decide ((0 : Int) ≤ v8) then (R.ok (decide (v8 < (List.length says_p : Int)))) else R.ok false)).bind fun v9 => R.ok (!v9))).bind fun v23 => if v23 then (R.ok false) else
  ((((((rIx told_p (2 : Int))).bind fun v11 => ((rIx told_p (3 : Int))).bind fun v12 => R.ok (v11, v12)).bind fun v14 => (((rIx told_p (0 : Int))).bind fun v13 => (rIx says_p v13)).bind fun v15 => R.ok (memB v14 v15)).bind fun v21 => (if v21 then (((rIx told_p (3 : Int))).bind fun v16 => ((rIx told_p (2 : Int))).bind fun v17 => R.ok (v16, v17)).bind fun v19 => (((rIx told_p (1 : Int))).bind fun v18 => (rIx says_p v18)).bind fun v20 => R.ok (memB v19 v20) else R.ok false)).bind fun v22 => R.ok v22))
abbrev sp_is_ring (P : Program) (w : World) (K : PySem.W.Frag) : Sp := spD (K := K) EX (tysC (yTupOf yInt) (tys1 (yLst (yLst yCn)))) (qP (K := K) yBl) (fun a => m_is_ring a.1 a.2)
theorem sc_is_ring : FnScope ["_law_told", "_law_says", "_law_number"] ["_law_told", "_law_says"] (defScope s_is_ring) := ⟨rfl, rfl, rfl, by decide +kernel, rfl, by decide +kernel, by decide +kernel⟩
theorem ok_is_ring {P : Program} {w : World} {K : PySem.W.Frag} {mg : Str → Option Value} {base : Heap} {f : Addr} {fd : FuncData} (F : FnP K "_law_is_ring" s_is_ring f fd) (c_is_integer : Cal P w K mg base CX 1 "_law_is_integer" ["_law_told"] (sp_is_integer P w K)) (bt : Bt mg) : FnOk P w K mg base CX 2 f fd ["_law_told", "_law_says"] (sp_is_ring P w K) := by
  refine fn_ok F sc_is_ring (entC (ent1 rfl)) rfl fun cdv A outer s H E hr a => ?_
  obtain ⟨told_p, says_p⟩ := a
  have sc := sc_is_ring
  exact ⟨_, fun c => .rt (qP (K := K) yBl c), DS.cast (m' := m_is_ring told_p says_p) (ds_ift (DW.dt (dw_or (dt_not (DQ.dt (dq_isi (cls := "tuple") (isi_tupOf (b := true) (by decide +kernel)) rfl bt.isinstance (by decide +kernel) rfl bt.tuple (by decide +kernel) (de_var (pv 0) rfl)))) (dw_or1 (DQ.dt (dq_neI (de_len len_tupOf rfl bt.len (de_var (pv 0) rfl)) (de_c (T := yInt) (a := (4 : Int)) pe_int (fun _ => rfl))))))) (ds_one (ds_ret (f := (fun a => a)) (de_c (T := yBl) (a := false) pe_bl (fun _ => rfl)) (fun _ => rfl))) (fun _ => rfl) (ds_seqX (f := (fun a => a)) (ρ1 := fun (s5 : Unit) => [some (.pl (yTupOf yInt) told_p), some (.pl (yLst (yLst yCn)) says_p), none]) (ds_forX (eH := fun (s2 : Unit) => [some (.pl (yTupOf yInt) told_p), some (.pl (yLst (yLst yCn)) says_p), none]) (eB := fun (s2 : Unit) (number_1 : Int) => [some (.pl (yTupOf yInt) told_p), some (.pl (yLst (yLst yCn)) says_p), some (.pl yInt number_1)]) (a0 := ()) (passes_of rfl) rfl (di_tup (de_var (pv 0) rfl)) (.keep (.keep (.keep .nil))) (fun (s2 : Unit) => dg_name (pg_name (i := 2) sc.nd rfl (.inl rfl))) (fun _ => ⟨_, rfl⟩) (fun (s2 : Unit) (number_1 : Int) => ds_one (ds_if1 (dt_not (dt_val (de_call c_is_integer.ok (hr.mono (by decide)) rfl c_is_integer.mg c_is_integer.kp c_is_integer.bd passC (da_one (de_var (pv 2) rfl)) imm_bl (wkN rfl)))) (ds_one (ds_ret (f := (fun a => (.inr a))) (de_c (T := yBl) (a := false) pe_bl (fun _ => rfl)) (fun _ => rfl))) (ds_nil (c := (.inl ())) (by first | exact .inl rfl | exact .inr rfl) (.keep (.keep (.drop .nil))))))) (fun (s5 : Unit) => ds_ift (DW.dt (dw_or (dt_not (DQ.dt (dq_chain op_le op_lt (de_c (T := yInt) (a := (0 : Int)) pe_int (fun _ => rfl)) (de_ixT (de_var (pv 0) rfl) (de_c (T := yInt) (a := (0 : Int)) pe_int (fun _ => rfl))) (de_len len_lst rfl bt.len (de_var (pv 1) rfl))))) (dw_or1 (dt_not (DQ.dt (dq_chain op_le op_lt (de_c (T := yInt) (a := (0 : Int)) pe_int (fun _ => rfl)) (de_ixT (de_var (pv 0) rfl) (de_c (T := yInt) (a := (1 : Int)) pe_int (fun _ => rfl))) (de_len len_lst rfl bt.len (de_var (pv 1) rfl)))))))) (ds_one (ds_ret (f := (fun a => a)) (de_c (T := yBl) (a := false) pe_bl (fun _ => rfl)) (fun _ => rfl))) (fun _ => rfl) (ds_one (ds_ret (f := (fun a => a)) (de_and (DQ.de (dq_inL (q_tup (q_C q_int (q_1 q_int))) (u65 hr) (lo rfl) (de_tup (dp_cons (de_ixT (de_var (pv 0) rfl) (de_c (T := yInt) (a := (2 : Int)) pe_int (fun _ => rfl))) (dp_one (de_ixT (de_var (pv 0) rfl) (de_c (T := yInt) (a := (3 : Int)) pe_int (fun _ => rfl)))))) (de_ixL (de_var (pv 1) rfl) (de_ixT (de_var (pv 0) rfl) (de_c (T := yInt) (a := (0 : Int)) pe_int (fun _ => rfl)))))) (de_one (DQ.de (dq_inL (q_tup (q_C q_int (q_1 q_int))) (u65 hr) (lo rfl) (de_tup (dp_cons (de_ixT (de_var (pv 0) rfl) (de_c (T := yInt) (a := (3 : Int)) pe_int (fun _ => rfl))) (dp_one (de_ixT (de_var (pv 0) rfl) (de_c (T := yInt) (a := (2 : Int)) pe_int (fun _ => rfl)))))) (de_ixL (de_var (pv 1) rfl) (de_ixT (de_var (pv 0) rfl) (de_c (T := yInt) (a := (1 : Int)) pe_int (fun _ => rfl)))))))) (fun _ => rfl)))) (fun x => by first | exact ⟨rfl, trivial⟩ | (cases x <;> exact ⟨rfl, trivial⟩)))) (by unfold m_is_ring; simp only [bo, isIn_dec, andok, orok]), fun _ => .inl rfl⟩
def m_find_ring (board_p : (Int × Int)) (half_p : PySem.Str) (paths_p : (List (List (Int × Int)))) : R Er (Option (Int × Int × Int × Int)) := ((m_sayings_of_paths board_p half_p paths_p)).bind fun (first_1 : (List ((Int × Int) × Int))) =>
  R.seqX (forX (fun (i2 : (Int × Int)) (s3 : Unit) => if (dhas first_1 (i2.2, i2.1)) then (((((rGet first_1 (i2.1, i2.2))).bind fun v7 => (((rGet first_1 (i2.2, i2.1))).bind fun v6 => R.ok (v6, i2.1, i2.2)).bind fun v8 => R.ok (v7, v8)).bind fun v9 => R.ok (some v9)).bind fun v10 => R.ok (.inr v10)) else
  (R.ok (.inl ()))) (dkeys first_1) ()) (fun a => a) fun (s11 : Unit) =>
  R.ok (none : (Option (Int × Int × Int × Int)))
abbrev sp_find_ring (P : Program) (w : World) (K : PySem.W.Frag) : Sp := spD (K := K) EX (tysC yCn (tysC yStr (tys1 (ySq (yTupOf yCn))))) (qP (K := K) (yOpt (yTup (tysC yInt (tysC yInt (tysC yInt (tys1 yInt))))))) (fun a => m_find_ring a.1 a.2.1 a.2.2)
theorem sc_find_ring : FnScope ["board", "half", "paths", "first", "s", "t"] ["board", "half", "paths"] (defScope s_find_ring) := ⟨rfl, rfl, rfl, by decide +kernel, rfl, by decide +kernel, by decide +kernel⟩
theorem ok_find_ring {P : Program} {w : World} {K : PySem.W.Frag} {mg : Str → Option Value} {base : Heap} {f : Addr} {fd : FuncData} (F : FnP K "find_ring" s_find_ring f fd) (c_sayings_of_paths : Cal P w K mg base CX 4 "sayings_of_paths" ["board", "half", "paths"] (sp_sayings_of_paths P w K)) (bt : Bt mg) : FnOk P w K mg base CX 5 f fd ["board", "half", "paths"] (sp_find_ring P w K) := by
  refine fn_ok F sc_find_ring (entC (entC (ent1 rfl))) rfl fun cdv A outer s H E hr a => ?_
  obtain ⟨board_p, half_p, paths_p⟩ := a
  have sc := sc_find_ring
  exact ⟨_, fun c => .rt (qP (K := K) (yOpt (yTup (tysC yInt (tysC yInt (tysC yInt (tys1 yInt)))))) c), DS.cast (m' := m_find_ring board_p half_p paths_p) (ds_cons (ρ1 := fun (first_1 : (List ((Int × Int) × Int))) => [some (.pl yCn board_p), some (.pl yStr half_p), some (.pl (ySq (yTupOf yCn)) paths_p), some (.ow (cDic P w (kTup (ksC kInt (ks1 kInt))) yInt) first_1), none, none]) (ds_setF (i := 3) sc.nd rfl (.inl rfl) (de_callF c_sayings_of_paths.ok (hr.mono (by decide)) rfl c_sayings_of_paths.mg c_sayings_of_paths.kp c_sayings_of_paths.bd passC (da_cons (de_var (pv 0) rfl) (da_cons (de_var (pv 1) rfl) (da_one (de_var (pv 2) rfl)))) (imm_cDic (imm_tup (imm_C imm_int (imm_1 imm_int))) imm_int) (wkN rfl))) (fun (first_1 : (List ((Int × Int) × Int))) => ds_giveC (i := 3) rfl (ds_seqX (f := (fun a => a)) (ρ1 := fun (s11 : Unit) => [some (.pl yCn board_p), some (.pl yStr half_p), some (.pl (ySq (yTupOf yCn)) paths_p), some (.pl (yDic P w (kTup (ksC kInt (ks1 kInt))) yInt) first_1), none, none]) (ds_forX (eH := fun (s3 : Unit) => [some (.pl yCn board_p), some (.pl yStr half_p), some (.pl (ySq (yTupOf yCn)) paths_p), some (.pl (yDic P w (kTup (ksC kInt (ks1 kInt))) yInt) first_1), none, none]) (eB := fun (s3 : Unit) (i2 : (Int × Int)) => [some (.pl yCn board_p), some (.pl yStr half_p), some (.pl (ySq (yTupOf yCn)) paths_p), some (.pl (yDic P w (kTup (ksC kInt (ks1 kInt))) yInt) first_1), some (.pl yInt i2.1), some (.pl yInt i2.2)]) (a0 := ()) (passes_of rfl) rfl (di_dict (de_var (pv 3) rfl)) (.keep (.keep (.keep (.keep (.keep (.keep .nil)))))) (fun (s3 : Unit) => dg_tup rfl (dgs_c (ρ' := fun (a4 : Int) => [some (.pl yCn board_p), some (.pl yStr half_p), some (.pl (ySq (yTupOf yCn)) paths_p), some (.pl (yDic P w (kTup (ksC kInt (ks1 kInt))) yInt) first_1), some (.pl yInt a4), none]) (dg_name (pg_name (i := 4) sc.nd rfl (.inl rfl))) (fun (a4 : Int) => dgs_1 (ρ' := fun (a5 : Int) => [some (.pl yCn board_p), some (.pl yStr half_p), some (.pl (ySq (yTupOf yCn)) paths_p), some (.pl (yDic P w (kTup (ksC kInt (ks1 kInt))) yInt) first_1), some (.pl yInt a4), some (.pl yInt a5)]) (dg_name (pg_name (i := 5) sc.nd rfl (.inl rfl)))))) (fun _ => ⟨_, rfl⟩) (fun (s3 : Unit) (i2 : (Int × Int)) => ds_one (ds_if1 (DQ.dt (dq_inN ar_tup (u64 hr) (de_tup (dp_cons (de_var (pv 5) rfl) (dp_one (de_var (pv 4) rfl)))) (de_var (pv 3) rfl))) (ds_one (ds_ret (f := (fun a => (.inr a))) (DE.as_ (U := (yOpt (yTup (tysC yInt (tysC yInt (tysC yInt (tys1 yInt))))))) (f := some) (de_tup (dp_cons (de_getN ar_tup (u64 hr) (de_var (pv 3) rfl) (de_tup (dp_cons (de_var (pv 4) rfl) (dp_one (de_var (pv 5) rfl))))) (dp_cons (de_getN ar_tup (u64 hr) (de_var (pv 3) rfl) (de_tup (dp_cons (de_var (pv 5) rfl) (dp_one (de_var (pv 4) rfl))))) (dp_cons (de_var (pv 4) rfl) (dp_one (de_var (pv 5) rfl)))))) (fun h => ⟨h, nn_tup h⟩)) (fun _ => rfl))) (ds_nil (c := (.inl ())) (by first | exact .inl rfl | exact .inr rfl) (.keep (.keep (.keep (.keep (.drop (.drop .nil)))))))))) (fun (s11 : Unit) => ds_one (ds_ret (f := (fun a => a)) (DE.as_ (U := (yOpt (yTup (tysC yInt (tysC yInt (tysC yInt (tys1 yInt))))))) (f := fun _ => none) (de_c (T := yNon) (a := ()) pe_non (fun _ => rfl)) (fun h => h)) (fun _ => rfl))) (fun x => by first | exact ⟨rfl, trivial⟩ | (cases x <;> exact ⟨rfl, trivial⟩))))) (by unfold m_find_ring; simp only [bo, isIn_dec, andok, orok]), fun _ => .inl rfl⟩
def m_is_ring_2 (told_p : (Option (Int × Int × Int × Int))) (says_p : (List (List (Int × Int)))) : R Er Bool := ((if (!(optB false (fun _ => true) told_p)) then R.ok true else (((unO told_p)).bind fun v1 => R.ok ((4 : Nat) : Int)).bind fun v2 => R.ok (!decide (v2 = (4 : Int))))).bind fun v36 => if v36 then (R.ok false) else
  (R.seqX ((((unO told_p)).bind fun v3 => R.ok ([v3.1, v3.2.1, v3.2.2.1, v3.2.2.2] : List Int)).bind fun v8 => forX (fun (number_4 : Int) (s5 : Unit) => (((m_is_integer number_4)).bind fun v6 => R.ok (!v6)).bind fun v7 => if v7 then (R.ok (.inr false)) else
  (R.ok (.inl ()))) v8 ()) (fun a => a) fun (s9 : Unit) =>
  ((((((unO told_p)).bind fun v10 => R.ok v10.1).bind fun v11 => (if decide ((0 : Int) ≤ v11) then (R.ok (decide (v11 < (List.length says_p : Int)))) else R.ok false)).bind fun v12 => R.ok (!v12)).bind fun v16 => (if v16 then R.ok true else ((((unO told_p)).bind fun v13 => R.ok v13.2.1).bind fun v14 => (if decide ((0 : Int) ≤ v14) then (R.ok (decide (v14 < (List.length says_p : Int)))) else R.ok false)).bind fun v15 => R.ok (!v15))).bind fun v35 => if v35 then (R.ok false) else
  (((((((unO told_p)).bind fun v17 => R.ok v17.2.2.1).bind fun v19 => (((unO told_p)).bind fun v18 => R.ok v18.2.2.2).bind fun v20 => R.ok (v19, v20)).bind fun v23 => ((((unO told_p)).bind fun v21 => R.ok v21.1).bind fun v22 => (rIx says_p v22)).bind fun v24 => R.ok (memB v23 v24)).bind fun v33 => (if v33 then ((((unO told_p)).bind fun v25 => R.ok v25.2.2.2).bind fun v27 => (((unO told_p)).bind fun v26 => R.ok v26.2.2.1).bind fun v28 => R.ok (v27, v28)).bind fun v31 => ((((unO told_p)).bind fun v29 => R.ok v29.2.1).bind fun v30 => (rIx says_p v30)).bind fun v32 => R.ok (memB v31 v32) else R.ok false)).bind fun v34 => R.ok v34))
abbrev sp_is_ring_2 (P : Program) (w : World) (K : PySem.W.Frag) : Sp := spD (K := K) EX (tysC (yOpt (yTup (tysC yInt (tysC yInt (tysC yInt (tys1 yInt)))))) (tys1 (yLst (yLst yCn)))) (qP (K := K) yBl) (fun a => m_is_ring_2 a.1 a.2)
theorem ok_is_ring_2 {P : Program} {w : World} {K : PySem.W.Frag} {mg : Str → Option Value} {base : Heap} {f : Addr} {fd : FuncData} (F : FnP K "_law_is_ring" s_is_ring f fd) (c_is_integer : Cal P w K mg base CX 1 "_law_is_integer" ["_law_told"] (sp_is_integer P w K)) (bt : Bt mg) : FnOk P w K mg base CX 2 f fd ["_law_told", "_law_says"] (sp_is_ring_2 P w K) := by
  refine fn_ok F sc_is_ring (entC (ent1 rfl)) rfl fun cdv A outer s H E hr a => ?_
  obtain ⟨told_p, says_p⟩ := a
  have sc := sc_is_ring
  exact ⟨_, fun c => .rt (qP (K := K) yBl c), DS.cast (m' := m_is_ring_2 told_p says_p) (ds_ift (DW.dt (dw_or (dt_not (DQ.dt (dq_isi (cls := "tuple") (isi_opt (b := false) (by decide +kernel) (isi_tup (b := true) (by decide +kernel))) rfl bt.isinstance (by decide +kernel) rfl bt.tuple (by decide +kernel) (de_var (pv 0) rfl)))) (dw_or1 (DQ.dt (dq_neI (de_len (len_tupN (n := 4) rfl) rfl bt.len (de_some (de_var (pv 0) rfl))) (de_c (T := yInt) (a := (4 : Int)) pe_int (fun _ => rfl))))))) (ds_one (ds_ret (f := (fun a => a)) (de_c (T := yBl) (a := false) pe_bl (fun _ => rfl)) (fun _ => rfl))) (fun _ => rfl) (ds_seqX (f := (fun a => a)) (ρ1 := fun (s9 : Unit) => [some (.pl (yOpt (yTup (tysC yInt (tysC yInt (tysC yInt (tys1 yInt)))))) told_p), some (.pl (yLst (yLst yCn)) says_p), none]) (ds_forX (eH := fun (s5 : Unit) => [some (.pl (yOpt (yTup (tysC yInt (tysC yInt (tysC yInt (tys1 yInt)))))) told_p), some (.pl (yLst (yLst yCn)) says_p), none]) (eB := fun (s5 : Unit) (number_4 : Int) => [some (.pl (yOpt (yTup (tysC yInt (tysC yInt (tysC yInt (tys1 yInt)))))) told_p), some (.pl (yLst (yLst yCn)) says_p), some (.pl yInt number_4)]) (a0 := ()) (passes_of rfl) rfl (di_tup (DE.as_ (U := (yTupOf yInt)) (de_some (de_var (pv 0) rfl)) (Tl.rel (tl_C (tl_C (tl_C tl_1)))))) (.keep (.keep (.keep .nil))) (fun (s5 : Unit) => dg_name (pg_name (i := 2) sc.nd rfl (.inl rfl))) (fun _ => ⟨_, rfl⟩) (fun (s5 : Unit) (number_4 : Int) => ds_one (ds_if1 (dt_not (dt_val (de_call c_is_integer.ok (hr.mono (by decide)) rfl c_is_integer.mg c_is_integer.kp c_is_integer.bd passC (da_one (de_var (pv 2) rfl)) imm_bl (wkN rfl)))) (ds_one (ds_ret (f := (fun a => (.inr a))) (de_c (T := yBl) (a := false) pe_bl (fun _ => rfl)) (fun _ => rfl))) (ds_nil (c := (.inl ())) (by first | exact .inl rfl | exact .inr rfl) (.keep (.keep (.drop .nil))))))) (fun (s9 : Unit) => ds_ift (DW.dt (dw_or (dt_not (DQ.dt (dq_chain op_le op_lt (de_c (T := yInt) (a := (0 : Int)) pe_int (fun _ => rfl)) (de_nth (de_some (de_var (pv 0) rfl)) nth_0) (de_len len_lst rfl bt.len (de_var (pv 1) rfl))))) (dw_or1 (dt_not (DQ.dt (dq_chain op_le op_lt (de_c (T := yInt) (a := (0 : Int)) pe_int (fun _ => rfl)) (de_nth (de_some (de_var (pv 0) rfl)) (nth_s nth_0)) (de_len len_lst rfl bt.len (de_var (pv 1) rfl)))))))) (ds_one (ds_ret (f := (fun a => a)) (de_c (T := yBl) (a := false) pe_bl (fun _ => rfl)) (fun _ => rfl))) (fun _ => rfl) (ds_one (ds_ret (f := (fun a => a)) (de_and (DQ.de (dq_inL (q_tup (q_C q_int (q_1 q_int))) (u65 hr) (lo rfl) (de_tup (dp_cons (de_nth (de_some (de_var (pv 0) rfl)) (nth_s (nth_s nth_0))) (dp_one (de_nth (de_some (de_var (pv 0) rfl)) (nth_s (nth_s (nth_s nth_1))))))) (de_ixL (de_var (pv 1) rfl) (de_nth (de_some (de_var (pv 0) rfl)) nth_0)))) (de_one (DQ.de (dq_inL (q_tup (q_C q_int (q_1 q_int))) (u65 hr) (lo rfl) (de_tup (dp_cons (de_nth (de_some (de_var (pv 0) rfl)) (nth_s (nth_s (nth_s nth_1)))) (dp_one (de_nth (de_some (de_var (pv 0) rfl)) (nth_s (nth_s nth_0)))))) (de_ixL (de_var (pv 1) rfl) (de_nth (de_some (de_var (pv 0) rfl)) (nth_s nth_0))))))) (fun _ => rfl)))) (fun x => by first | exact ⟨rfl, trivial⟩ | (cases x <;> exact ⟨rfl, trivial⟩)))) (by unfold m_is_ring_2; simp only [bo, isIn_dec, andok, orok]), fun _ => .inl rfl⟩
def m_is_ring_own_2 (board_p : (Int × Int)) (half_p : PySem.Str) (paths_p : (List (List (Int × Int)))) (certificate_p : (Option (Int × Int × Int × Int))) : R Er Bool := ((unO certificate_p)).bind fun (t1 : (Int × Int × Int × Int)) =>
  ((((if decide ((0 : Int) ≤ t1.1) then (R.ok (decide (t1.1 < (List.length paths_p : Int)))) else R.ok false)).bind fun v6 => R.ok (!v6)).bind fun v8 => (if v8 then R.ok true else ((if decide ((0 : Int) ≤ t1.2.1) then (R.ok (decide (t1.2.1 < (List.length paths_p : Int)))) else R.ok false)).bind fun v7 => R.ok (!v7))).bind fun v19 => if v19 then (R.ok false) else
  (((((((rIx paths_p t1.1)).bind fun v9 => R.ok (half_p, v9)).bind fun v10 => R.ok (board_p, v10)).bind fun v11 => (m_sayings_of_path v11.1 v11.2.1 v11.2.2)).bind fun v12 => R.ok (!memB (t1.2.2.1, t1.2.2.2) v12)).bind fun v18 => if v18 then (R.ok false) else
  (((((((rIx paths_p t1.2.1)).bind fun v13 => R.ok (half_p, v13)).bind fun v14 => R.ok (board_p, v14)).bind fun v15 => (m_sayings_of_path v15.1 v15.2.1 v15.2.2)).bind fun v16 => R.ok (memB (t1.2.2.2, t1.2.2.1) v16)).bind fun v17 => R.ok v17))
abbrev sp_is_ring_own_2 (P : Program) (w : World) (K : PySem.W.Frag) : Sp := spD (K := K) EX (tysC yCn (tysC yStr (tysC (ySq (yTupOf yCn)) (tys1 (yOpt (yTup (tysC yInt (tysC yInt (tysC yInt (tys1 yInt)))))))))) (qP (K := K) yBl) (fun a => m_is_ring_own_2 a.1 a.2.1 a.2.2.1 a.2.2.2)
theorem ok_is_ring_own_2 {P : Program} {w : World} {K : PySem.W.Frag} {mg : Str → Option Value} {base : Heap} {f : Addr} {fd : FuncData} (F : FnP K "is_ring" s_is_ring_own f fd) (c_sayings_of_path : Cal P w K mg base CX 3 "sayings_of_path" ["board", "half", "path"] (sp_sayings_of_path P w K)) (bt : Bt mg) : FnOk P w K mg base CX 4 f fd ["board", "half", "paths", "certificate"] (sp_is_ring_own_2 P w K) := by
  refine fn_ok F sc_is_ring_own (entC (entC (entC (ent1 rfl)))) rfl fun cdv A outer s H E hr a => ?_
  obtain ⟨board_p, half_p, paths_p, certificate_p⟩ := a
  have sc := sc_is_ring_own
  exact ⟨_, fun c => .rt (qP (K := K) yBl c), DS.cast (m' := m_is_ring_own_2 board_p half_p paths_p certificate_p) (ds_cons (ρ1 := fun (t1 : (Int × Int × Int × Int)) => [some (.pl yCn board_p), some (.pl yStr half_p), some (.pl (ySq (yTupOf yCn)) paths_p), some (.pl (yOpt (yTup (tysC yInt (tysC yInt (tysC yInt (tys1 yInt)))))) certificate_p), some (.pl yInt t1.1), some (.pl yInt t1.2.1), some (.pl yInt t1.2.2.1), some (.pl yInt t1.2.2.2)]) (ds_asg (de_some (de_var (pv 3) rfl)) (dg_tup rfl (dgs_c (ρ' := fun (a2 : Int) => [some (.pl yCn board_p), some (.pl yStr half_p), some (.pl (ySq (yTupOf yCn)) paths_p), some (.pl (yOpt (yTup (tysC yInt (tysC yInt (tysC yInt (tys1 yInt)))))) certificate_p), some (.pl yInt a2), none, none, none]) (dg_name (pg_name (i := 4) sc.nd rfl (.inl rfl))) (fun (a2 : Int) => dgs_c (ρ' := fun (a3 : Int) => [some (.pl yCn board_p), some (.pl yStr half_p), some (.pl (ySq (yTupOf yCn)) paths_p), some (.pl (yOpt (yTup (tysC yInt (tysC yInt (tysC yInt (tys1 yInt)))))) certificate_p), some (.pl yInt a2), some (.pl yInt a3), none, none]) (dg_name (pg_name (i := 5) sc.nd rfl (.inl rfl))) (fun (a3 : Int) => dgs_c (ρ' := fun (a4 : Int) => [some (.pl yCn board_p), some (.pl yStr half_p), some (.pl (ySq (yTupOf yCn)) paths_p), some (.pl (yOpt (yTup (tysC yInt (tysC yInt (tysC yInt (tys1 yInt)))))) certificate_p), some (.pl yInt a2), some (.pl yInt a3), some (.pl yInt a4), none]) (dg_name (pg_name (i := 6) sc.nd rfl (.inl rfl))) (fun (a4 : Int) => dgs_1 (ρ' := fun (a5 : Int) => [some (.pl yCn board_p), some (.pl yStr half_p), some (.pl (ySq (yTupOf yCn)) paths_p), some (.pl (yOpt (yTup (tysC yInt (tysC yInt (tysC yInt (tys1 yInt)))))) certificate_p), some (.pl yInt a2), some (.pl yInt a3), some (.pl yInt a4), some (.pl yInt a5)]) (dg_name (pg_name (i := 7) sc.nd rfl (.inl rfl))))))))) (fun (t1 : (Int × Int × Int × Int)) => ds_ift (DW.dt (dw_or (dt_not (DQ.dt (dq_chain op_le op_lt (de_c (T := yInt) (a := (0 : Int)) pe_int (fun _ => rfl)) (de_var (pv 4) rfl) (de_len len_sq rfl bt.len (de_var (pv 2) rfl))))) (dw_or1 (dt_not (DQ.dt (dq_chain op_le op_lt (de_c (T := yInt) (a := (0 : Int)) pe_int (fun _ => rfl)) (de_var (pv 5) rfl) (de_len len_sq rfl bt.len (de_var (pv 2) rfl)))))))) (ds_one (ds_ret (f := (fun a => a)) (de_c (T := yBl) (a := false) pe_bl (fun _ => rfl)) (fun _ => rfl))) (fun _ => rfl) (ds_ift (DQ.dt (dq_notInL (q_tup (q_C q_int (q_1 q_int))) (u65 hr) (lo rfl) (de_tup (dp_cons (de_var (pv 6) rfl) (dp_one (de_var (pv 7) rfl)))) (DE.fpL (de_callF c_sayings_of_path.ok (hr.mono (by decide)) rfl c_sayings_of_path.mg c_sayings_of_path.kp c_sayings_of_path.bd passC (da_cons (de_var (pv 0) rfl) (da_cons (de_var (pv 1) rfl) (da_one (de_ixQ (de_var (pv 2) rfl) (de_var (pv 4) rfl))))) (imm_cLst (imm_tup (imm_C imm_int (imm_1 imm_int)))) (wkN rfl))))) (ds_one (ds_ret (f := (fun a => a)) (de_c (T := yBl) (a := false) pe_bl (fun _ => rfl)) (fun _ => rfl))) (fun _ => rfl) (ds_one (ds_ret (f := (fun a => a)) (DQ.de (dq_inL (q_tup (q_C q_int (q_1 q_int))) (u65 hr) (lo rfl) (de_tup (dp_cons (de_var (pv 7) rfl) (dp_one (de_var (pv 6) rfl)))) (DE.fpL (de_callF c_sayings_of_path.ok (hr.mono (by decide)) rfl c_sayings_of_path.mg c_sayings_of_path.kp c_sayings_of_path.bd passC (da_cons (de_var (pv 0) rfl) (da_cons (de_var (pv 1) rfl) (da_one (de_ixQ (de_var (pv 2) rfl) (de_var (pv 5) rfl))))) (imm_cLst (imm_tup (imm_C imm_int (imm_1 imm_int)))) (wkN rfl))))) (fun _ => rfl)))))) (by unfold m_is_ring_own_2; simp only [bo, isIn_dec, andok, orok]), fun _ => .inl rfl⟩
def m_drawn_path (board_here_p : (Int × Int)) (half_p : PySem.Str) (cell_here_p : Int) (paths_p : (List (List (Int × Int)))) : R Er (List (Int × Int)) := ((m_draws cell_here_p ([(8 : Int), (17 : Int), (17 : Int)] : List Int))).bind fun (d_1 : (List Int)) =>
  ((((rIx d_1 (0 : Int))).bind fun v2 => R.ok (decide (v2 < (3 : Int)))).bind fun v3 => (if v3 then (R.ok (decide ((0 : Int) < (List.length paths_p : Int)))) else R.ok false)).bind fun v31 => if v31 then (((((rIx d_1 (1 : Int))).bind fun v5 => (rMod v5 (List.length paths_p : Int))).bind fun v6 => (rIx paths_p v6)).bind fun (earlier_4 : (List (Int × Int))) =>
  (((rIx d_1 (0 : Int))).bind fun v7 => R.ok (decide (v7 = (0 : Int)))).bind fun v9 => if v9 then (R.ok earlier_4) else
  (((m_turned earlier_4)).bind fun v8 => R.ok v8)) else
  (((((rDiv cell_here_p (8 : Int))).bind fun v11 => R.ok (board_here_p, v11)).bind fun v12 => (m_path v12.1 v12.2)).bind fun (path_here_10 : (List (Int × Int))) =>
  ((((rIx d_1 (0 : Int))).bind fun v13 => R.ok (decide ((4 : Int) < v13))).bind fun v19 => if v19 then ((((((rDiv cell_here_p (8 : Int))).bind fun v16 => R.ok (half_p, v16)).bind fun v17 => R.ok (board_here_p, v17)).bind fun v18 => (m_long_path v18.1 v18.2.1 v18.2.2)).bind fun (path_here_15 : (List (Int × Int))) =>
  R.ok path_here_15) else
  (R.ok path_here_10)).bind fun (s14 : (List (Int × Int))) =>
  ((((rIx d_1 (0 : Int))).bind fun v20 => R.ok (decide (v20 = (3 : Int)))).bind fun v22 => (if v22 then R.ok true else ((rIx d_1 (0 : Int))).bind fun v21 => R.ok (decide (v21 = (5 : Int))))).bind fun v30 => if v30 then (R.ok s14) else
  (((((((rIx d_1 (1 : Int))).bind fun v23 => (rMod v23 (List.length s14 : Int))).bind fun v25 => (((rIx d_1 (2 : Int))).bind fun v24 => (rMod v24 (List.length s14 : Int))).bind fun v26 => R.ok (v25, v26)).bind fun v27 => R.ok (s14, v27)).bind fun v28 => (m_part v28.1 v28.2.1 v28.2.2)).bind fun v29 => R.ok v29))
abbrev sp_drawn_path (P : Program) (w : World) (K : PySem.W.Frag) : Sp := spD (K := K) EX (tysC yCn (tysC yStr (tysC yInt (tys1 (yLst (yTupOf yCn)))))) (qP (K := K) (yTupOf yCn)) (fun a => m_drawn_path a.1 a.2.1 a.2.2.1 a.2.2.2)
theorem sc_drawn_path : FnScope ["_law_board_here", "_law_half", "_law_cell_here", "_law_paths", "_law_d", "_law_earlier", "_law_path_here"] ["_law_board_here", "_law_half", "_law_cell_here", "_law_paths"] (defScope s_drawn_path) := ⟨rfl, rfl, rfl, by decide +kernel, rfl, by decide +kernel, by decide +kernel⟩
theorem ok_drawn_path {P : Program} {w : World} {K : PySem.W.Frag} {mg : Str → Option Value} {base : Heap} {f : Addr} {fd : FuncData} (F : FnP K "_law_drawn_path" s_drawn_path f fd) (c_draws : Cal P w K mg base CX 1 "_law_draws" ["_law_cell_here", "_law_sizes"] (sp_draws P w K)) (c_turned : Cal P w K mg base CX 1 "_law_turned" ["_law_path_here"] (sp_turned P w K)) (c_path : Cal P w K mg base CX 2 "_law_path" ["_law_board_here", "_law_cell_here"] (sp_path P w K)) (c_long_path : Cal P w K mg base CX 2 "_law_long_path" ["_law_board_here", "_law_half", "_law_cell_here"] (sp_long_path P w K)) (c_part : Cal P w K mg base CX 1 "_law_part" ["_law_path_here", "_law_i", "_law_j"] (sp_part P w K)) (bt : Bt mg) : FnOk P w K mg base CX 3 f fd ["_law_board_here", "_law_half", "_law_cell_here", "_law_paths"] (sp_drawn_path P w K) := by
  refine fn_ok F sc_drawn_path (entC (entC (entC (ent1 rfl)))) rfl fun cdv A outer s H E hr a => ?_
  obtain ⟨board_here_p, half_p, cell_here_p, paths_p⟩ := a
  have sc := sc_drawn_path
  exact ⟨_, fun c => .rt (qP (K := K) (yTupOf yCn) c), DS.cast (m' := m_drawn_path board_here_p half_p cell_here_p paths_p) (ds_cons (ρ1 := fun (d_1 : (List Int)) => [some (.pl yCn board_here_p), some (.pl yStr half_p), some (.pl yInt cell_here_p), some (.pl (yLst (yTupOf yCn)) paths_p), some (.ow (cLst yInt) d_1), none, none]) (ds_setF (i := 4) sc.nd rfl (.inl rfl) (de_callF c_draws.ok (hr.mono (by decide)) rfl c_draws.mg c_draws.kp c_draws.bd passC (da_cons (de_var (pv 2) rfl) (da_one (DE.fpL (de_lst (T := yInt) (dl_cons (de_c (T := yInt) (a := (8 : Int)) pe_int (fun _ => rfl)) (dl_cons (de_c (T := yInt) (a := (17 : Int)) pe_int (fun _ => rfl)) (dl_cons (de_c (T := yInt) (a := (17 : Int)) pe_int (fun _ => rfl)) (dl_nil)))))))) (imm_cLst imm_int) (wkN rfl))) (fun (d_1 : (List Int)) => ds_ift (DW.dt (dw_and (DQ.dt (dq_lt (de_ixL (de_ownL (pv 4) rfl) (de_c (T := yInt) (a := (0 : Int)) pe_int (fun _ => rfl))) (de_c (T := yInt) (a := (3 : Int)) pe_int (fun _ => rfl)))) (dw_and1 (DQ.dt (dq_gt (de_len len_lst rfl bt.len (de_var (pv 3) rfl)) (de_c (T := yInt) (a := (0 : Int)) pe_int (fun _ => rfl))))))) (ds_cons (ρ1 := fun (earlier_4 : (List (Int × Int))) => [some (.pl yCn board_here_p), some (.pl yStr half_p), some (.pl yInt cell_here_p), some (.pl (yLst (yTupOf yCn)) paths_p), some (.ow (cLst yInt) d_1), some (.pl (yTupOf yCn) earlier_4), none]) (ds_set (i := 5) sc.nd rfl (.inl rfl) (de_ixL (de_var (pv 3) rfl) (de_mod (de_int1 rfl bt.int (de_ixL (de_ownL (pv 4) rfl) (de_c (T := yInt) (a := (1 : Int)) pe_int (fun _ => rfl)))) (de_len len_lst rfl bt.len (de_var (pv 3) rfl))))) (fun (earlier_4 : (List (Int × Int))) => ds_ift (DQ.dt (dq_eqI (de_ixL (de_ownL (pv 4) rfl) (de_c (T := yInt) (a := (0 : Int)) pe_int (fun _ => rfl))) (de_c (T := yInt) (a := (0 : Int)) pe_int (fun _ => rfl)))) (ds_one (ds_ret (f := (fun a => a)) (de_var (pv 5) rfl) (fun _ => rfl))) (fun _ => rfl) (ds_one (ds_ret (f := (fun a => a)) (de_call c_turned.ok (hr.mono (by decide)) rfl c_turned.mg c_turned.kp c_turned.bd passC (da_one (de_var (pv 5) rfl)) (imm_tupOf (imm_tup (imm_C imm_int (imm_1 imm_int)))) (wkN rfl)) (fun _ => rfl))))) (fun _ => rfl) (ds_cons (ρ1 := fun (path_here_10 : (List (Int × Int))) => [some (.pl yCn board_here_p), some (.pl yStr half_p), some (.pl yInt cell_here_p), some (.pl (yLst (yTupOf yCn)) paths_p), some (.ow (cLst yInt) d_1), none, some (.pl (yTupOf (yTup (tysC yInt (tys1 yInt)))) path_here_10)]) (ds_set (i := 6) sc.nd rfl (.inl rfl) (de_call c_path.ok (hr.mono (by decide)) rfl c_path.mg c_path.kp c_path.bd passC (da_cons (de_var (pv 0) rfl) (da_one (de_div (de_int1 rfl bt.int (de_var (pv 2) rfl)) (de_c (T := yInt) (a := (8 : Int)) pe_int (fun _ => rfl))))) (imm_tupOf (imm_tup (imm_C imm_int (imm_1 imm_int)))) (wkN rfl))) (fun (path_here_10 : (List (Int × Int))) => ds_cons (ρ1 := fun (s14 : (List (Int × Int))) => [some (.pl yCn board_here_p), some (.pl yStr half_p), some (.pl yInt cell_here_p), some (.pl (yLst (yTupOf yCn)) paths_p), some (.ow (cLst yInt) d_1), none, some (.pl (yTupOf yCn) s14)]) (ds_if1 (DQ.dt (dq_gt (de_ixL (de_ownL (pv 4) rfl) (de_c (T := yInt) (a := (0 : Int)) pe_int (fun _ => rfl))) (de_c (T := yInt) (a := (4 : Int)) pe_int (fun _ => rfl)))) (ds_cons (ρ1 := fun (path_here_15 : (List (Int × Int))) => [some (.pl yCn board_here_p), some (.pl yStr half_p), some (.pl yInt cell_here_p), some (.pl (yLst (yTupOf yCn)) paths_p), some (.ow (cLst yInt) d_1), none, some (.pl (yTupOf yCn) path_here_15)]) (ds_set (i := 6) sc.nd rfl (.inl rfl) (de_call c_long_path.ok (hr.mono (by decide)) rfl c_long_path.mg c_long_path.kp c_long_path.bd passC (da_cons (de_var (pv 0) rfl) (da_cons (de_var (pv 1) rfl) (da_one (de_div (de_int1 rfl bt.int (de_var (pv 2) rfl)) (de_c (T := yInt) (a := (8 : Int)) pe_int (fun _ => rfl)))))) (imm_tupOf (imm_tup (imm_C imm_int (imm_1 imm_int)))) (wkN rfl))) (fun (path_here_15 : (List (Int × Int))) => ds_nil (c := path_here_15) (by first | exact .inl rfl | exact .inr rfl) (.keep (.keep (.keep (.keep (.keep (.keep (.keep .nil))))))))) (ds_nil (c := path_here_10) (by first | exact .inl rfl | exact .inr rfl) (.keep (.keep (.keep (.keep (.keep (.keep (.keep .nil))))))))) (fun (s14 : (List (Int × Int))) => ds_ift (DW.dt (dw_or (DQ.dt (dq_eqI (de_ixL (de_ownL (pv 4) rfl) (de_c (T := yInt) (a := (0 : Int)) pe_int (fun _ => rfl))) (de_c (T := yInt) (a := (3 : Int)) pe_int (fun _ => rfl)))) (dw_or1 (DQ.dt (dq_eqI (de_ixL (de_ownL (pv 4) rfl) (de_c (T := yInt) (a := (0 : Int)) pe_int (fun _ => rfl))) (de_c (T := yInt) (a := (5 : Int)) pe_int (fun _ => rfl))))))) (ds_one (ds_ret (f := (fun a => a)) (de_var (pv 6) rfl) (fun _ => rfl))) (fun _ => rfl) (ds_one (ds_ret (f := (fun a => a)) (de_call c_part.ok (hr.mono (by decide)) rfl c_part.mg c_part.kp c_part.bd passC (da_cons (de_var (pv 6) rfl) (da_cons (de_mod (de_int1 rfl bt.int (de_ixL (de_ownL (pv 4) rfl) (de_c (T := yInt) (a := (1 : Int)) pe_int (fun _ => rfl)))) (de_len len_tupOf rfl bt.len (de_var (pv 6) rfl))) (da_one (de_mod (de_int1 rfl bt.int (de_ixL (de_ownL (pv 4) rfl) (de_c (T := yInt) (a := (2 : Int)) pe_int (fun _ => rfl)))) (de_len len_tupOf rfl bt.len (de_var (pv 6) rfl)))))) (imm_tupOf (imm_tup (imm_C imm_int (imm_1 imm_int)))) (wkN rfl)) (fun _ => rfl)))))))) (by unfold m_drawn_path; simp only [bo, isIn_dec, andok, orok]), fun _ => .inl rfl⟩
def m_law (script_p : (List Int)) : R Er Bool := ((((m_cell script_p (0 : Int))).bind fun v2 => R.ok (v2, (8 : Int))).bind fun v3 => (m_board v3.1 v3.2)).bind fun (board_here_1 : (Int × Int)) =>
  ((((m_cell script_p (1 : Int))).bind fun v5 => R.ok (v5, ([(2 : Int), (7 : Int), (2 : Int)] : List Int))).bind fun v6 => (m_draws v6.1 v6.2)).bind fun (d_4 : (List Int)) =>
  (((rIx d_4 (0 : Int))).bind fun v8 => (rIx ([("rising" : PySem.Str), ("falling" : PySem.Str)] : List PySem.Str) v8)).bind fun (half_7 : PySem.Str) =>
  (R.ok ([] : List (List (Int × Int)))).bind fun (paths_9 : (List (List (Int × Int)))) =>
  ((((rIx d_4 (1 : Int))).bind fun v10 => (rRng 0 v10)).bind fun v22 => forS (fun (k_11 : Int) (s12 : (List (List (Int × Int)))) => ((((((((m_cell script_p ((3 : Int) + k_11))).bind fun v14 => ((rMul (104729 : Int) k_11)).bind fun v15 => R.ok (v14 + v15)).bind fun v16 => R.ok (v16, s12)).bind fun v17 => R.ok (half_7, v17)).bind fun v18 => R.ok (board_here_1, v18)).bind fun v19 => (m_drawn_path v19.1 v19.2.1 v19.2.2.1 v19.2.2.2)).bind fun v21 => (rApp s12 v21)).bind fun (c20 : (List (Int × Int))) =>
  R.ok (s12 ++ [c20])) v22 paths_9).bind fun (s23 : (List (List (Int × Int)))) =>
  ((lcR (fun (path_here_25 : (List (Int × Int))) => (R.ok true)) (fun (path_here_25 : (List (Int × Int))) => (m_sayings board_here_1 half_7 path_here_25)) s23)).bind fun (says_24 : (List (List (Int × Int)))) =>
  ((m_rings says_24)).bind fun (rings_here_26 : (List (Int × Int × Int × Int))) =>
  (R.ok s23).bind fun (handed_27 : (List (List (Int × Int)))) =>
  ((((rIx d_4 (2 : Int))).bind fun v28 => R.ok (decide (v28 = (1 : Int)))).bind fun v31 => if v31 then ((R.ok s23).bind fun (handed_30 : (List (List (Int × Int)))) =>
  R.ok handed_30) else
  (R.ok handed_27)).bind fun (s29 : (List (List (Int × Int)))) =>
  ((m_union says_24)).bind fun (due_32 : (List (Int × Int))) =>
  ((m_said board_here_1 half_7 s29)).bind fun (told_33 : (List (Int × Int))) =>
  (((m_is_row told_33 due_32)).bind fun v34 => R.ok (!v34)).bind fun v54 => if v54 then (R.ok false) else
  (((rApp told_33 ((0 : Int), (1 : Int)))).bind fun (c36 : (Int × Int)) =>
  (((((m_said board_here_1 half_7 s29)).bind fun v37 => R.ok (v37, due_32)).bind fun v38 => (m_is_row v38.1 v38.2)).bind fun v39 => R.ok (!v39)).bind fun v53 => if v53 then (R.ok false) else
  (R.seqX (((((m_cell script_p (2 : Int))).bind fun v40 => R.ok (v40, rings_here_26, (List.length s23 : Int), (board_here_1.1 + board_here_1.2))).bind fun v41 => (m_certificates v41.1 v41.2.1 v41.2.2.1 v41.2.2.2)).bind fun v47 => forX (fun (numbers_42 : (List Int)) (s43 : Unit) => ((m_is_ring_own board_here_1 half_7 s29 numbers_42)).bind fun (accepted_44 : Bool) =>
  ((if (!true) then R.ok true else ((m_is_ring numbers_42 says_24)).bind fun v45 => R.ok (!decide (accepted_44 = v45)))).bind fun v46 => if v46 then (R.ok (.inr false)) else
  (R.ok (.inl ()))) v47 ()) (fun a => a) fun (s48 : Unit) =>
  ((m_find_ring board_here_1 half_7 s29)).bind fun (ring_49 : (Option (Int × Int × Int × Int))) =>
  if (decide ((List.length rings_here_26 : Int) = (0 : Int))) then (R.ok ((Option.isNone ring_49) && (decide (s29 = s23)))) else
  ((((m_is_ring_2 ring_49 says_24)).bind fun v50 => R.ok (!v50)).bind fun v52 => if v52 then (R.ok false) else
  (((m_is_ring_own_2 board_here_1 half_7 s29 ring_49)).bind fun (accepted_51 : Bool) =>
  R.ok (true && (accepted_51 && (decide (s29 = s23))))))))
abbrev sp_law (P : Program) (w : World) (K : PySem.W.Frag) : Sp := spD (K := K) EX (tys1 (yScr yInt)) (qP (K := K) yBl) (fun a => m_law a)
theorem sc_law : FnScope ["_law_script", "_law_board_here", "_law_d", "_law_half", "_law_paths", "_law_k", "_law_says", "_law_rings_here", "_law_handed", "_law_due", "_law_told", "_law_numbers", "_law_accepted", "_law_ring", "_law_path_here"] ["_law_script"] (defScope s_law) := ⟨rfl, rfl, rfl, by decide +kernel, rfl, by decide +kernel, by decide +kernel⟩
theorem ok_law {P : Program} {w : World} {K : PySem.W.Frag} {mg : Str → Option Value} {base : Heap} {f : Addr} {fd : FuncData} (F : FnP K "law" s_law f fd) (c_cell : Cal P w K mg base CX 1 "_law_cell" ["_law_script", "_law_k"] (sp_cell P w K)) (c_board : Cal P w K mg base CX 2 "_law_board" ["_law_cell_here", "_law_most"] (sp_board P w K)) (c_draws : Cal P w K mg base CX 1 "_law_draws" ["_law_cell_here", "_law_sizes"] (sp_draws P w K)) (c_drawn_path : Cal P w K mg base CX 3 "_law_drawn_path" ["_law_board_here", "_law_half", "_law_cell_here", "_law_paths"] (sp_drawn_path P w K)) (c_sayings : Cal P w K mg base CX 1 "_law_sayings" ["_law_board_here", "_law_half", "_law_path_here"] (sp_sayings P w K)) (c_rings : Cal P w K mg base CX 1 "_law_rings" ["_law_says"] (sp_rings P w K)) (c_union : Cal P w K mg base CX 1 "_law_union" ["_law_says"] (sp_union P w K)) (c_said : Cal P w K mg base CX 5 "said" ["board", "half", "paths"] (sp_said P w K)) (c_is_row : Cal P w K mg base CX 3 "_law_is_row" ["_law_told", "_law_wanted"] (sp_is_row P w K)) (c_certificates : Cal P w K mg base CX 2 "_law_certificates" ["_law_cell_here", "_law_rings_here", "_law_count", "_law_size"] (sp_certificates P w K)) (c_is_ring_own : Cal P w K mg base CX 4 "is_ring" ["board", "half", "paths", "certificate"] (sp_is_ring_own P w K)) (c_is_ring : Cal P w K mg base CX 2 "_law_is_ring" ["_law_told", "_law_says"] (sp_is_ring P w K)) (c_find_ring : Cal P w K mg base CX 5 "find_ring" ["board", "half", "paths"] (sp_find_ring P w K)) (c_is_ring_2 : Cal P w K mg base CX 2 "_law_is_ring" ["_law_told", "_law_says"] (sp_is_ring_2 P w K)) (c_is_ring_own_2 : Cal P w K mg base CX 4 "is_ring" ["board", "half", "paths", "certificate"] (sp_is_ring_own_2 P w K)) (bt : Bt mg) : FnOk P w K mg base CX 6 f fd ["_law_script"] (sp_law P w K) := by
  refine fn_ok F sc_law (ent1 rfl) rfl fun cdv A outer s H E hr script_p => ?_
  have sc := sc_law
  exact ⟨_, fun c => .rt (qP (K := K) yBl c), DS.cast (m' := m_law script_p) (ds_cons (ρ1 := fun (board_here_1 : (Int × Int)) => [some (.pl (yScr yInt) script_p), some (.pl (yTup (tysC yInt (tys1 yInt))) board_here_1), none, none, none, none, none, none, none, none, none, none, none, none, none]) (ds_set (i := 1) sc.nd rfl (.inr rfl) (de_call c_board.ok (hr.mono (by decide)) rfl c_board.mg c_board.kp c_board.bd passC (da_cons (de_call c_cell.ok (hr.mono (by decide)) rfl c_cell.mg c_cell.kp c_cell.bd passC (da_cons (de_var (pv 0) rfl) (da_one (de_c (T := yInt) (a := (0 : Int)) pe_int (fun _ => rfl)))) imm_int (wkN rfl)) (da_one (de_c (T := yInt) (a := (8 : Int)) pe_int (fun _ => rfl)))) (imm_tup (imm_C imm_int (imm_1 imm_int))) (wkN rfl))) (fun (board_here_1 : (Int × Int)) => ds_cons (ρ1 := fun (d_4 : (List Int)) => [some (.pl (yScr yInt) script_p), some (.pl (yTup (tysC yInt (tys1 yInt))) board_here_1), some (.ow (cLst yInt) d_4), none, none, none, none, none, none, none, none, none, none, none, none]) (ds_setF (i := 2) sc.nd rfl (.inl rfl) (de_callF c_draws.ok (hr.mono (by decide)) rfl c_draws.mg c_draws.kp c_draws.bd passC (da_cons (de_call c_cell.ok (hr.mono (by decide)) rfl c_cell.mg c_cell.kp c_cell.bd passC (da_cons (de_var (pv 0) rfl) (da_one (de_c (T := yInt) (a := (1 : Int)) pe_int (fun _ => rfl)))) imm_int (wkN rfl)) (da_one (DE.fpL (de_lst (T := yInt) (dl_cons (de_c (T := yInt) (a := (2 : Int)) pe_int (fun _ => rfl)) (dl_cons (de_c (T := yInt) (a := (7 : Int)) pe_int (fun _ => rfl)) (dl_cons (de_c (T := yInt) (a := (2 : Int)) pe_int (fun _ => rfl)) (dl_nil)))))))) (imm_cLst imm_int) (wkN rfl))) (fun (d_4 : (List Int)) => ds_cons (ρ1 := fun (half_7 : PySem.Str) => [some (.pl (yScr yInt) script_p), some (.pl (yTup (tysC yInt (tys1 yInt))) board_here_1), some (.ow (cLst yInt) d_4), some (.pl yStr half_7), none, none, none, none, none, none, none, none, none, none, none]) (ds_set (i := 3) sc.nd rfl (.inr rfl) (de_ixL (DE.fpL (de_lst (T := yStr) (dl_cons (de_c (T := yStr) (a := ("rising" : PySem.Str)) pe_str (fun _ => ⟨rfl, by decide +kernel⟩)) (dl_cons (de_c (T := yStr) (a := ("falling" : PySem.Str)) pe_str (fun _ => ⟨rfl, by decide +kernel⟩)) (dl_nil))))) (de_ixL (de_ownL (pv 2) rfl) (de_c (T := yInt) (a := (0 : Int)) pe_int (fun _ => rfl))))) (fun (half_7 : PySem.Str) => ds_cons (ρ1 := fun (paths_9 : (List (List (Int × Int)))) => [some (.pl (yScr yInt) script_p), some (.pl (yTup (tysC yInt (tys1 yInt))) board_here_1), some (.ow (cLst yInt) d_4), some (.pl yStr half_7), some (.ow (cLst (yTupOf yCn)) paths_9), none, none, none, none, none, none, none, none, none, none]) (ds_setF (i := 4) sc.nd rfl (.inl rfl) (de_lst (T := (yTupOf yCn)) (dl_nil))) (fun (paths_9 : (List (List (Int × Int)))) => ds_cons (ρ1 := fun (s23 : (List (List (Int × Int)))) => [some (.pl (yScr yInt) script_p), some (.pl (yTup (tysC yInt (tys1 yInt))) board_here_1), some (.ow (cLst yInt) d_4), some (.pl yStr half_7), some (.ow (cLst (yTupOf yCn)) s23), none, none, none, none, none, none, none, none, none, none]) (ds_forS (eH := fun (s12 : (List (List (Int × Int)))) => [some (.pl (yScr yInt) script_p), some (.pl (yTup (tysC yInt (tys1 yInt))) board_here_1), some (.ow (cLst yInt) d_4), some (.pl yStr half_7), some (.ow (cLst (yTupOf yCn)) s12), none, none, none, none, none, none, none, none, none, none]) (eB := fun (s12 : (List (List (Int × Int)))) (k_11 : Int) => [some (.pl (yScr yInt) script_p), some (.pl (yTup (tysC yInt (tys1 yInt))) board_here_1), some (.ow (cLst yInt) d_4), some (.pl yStr half_7), some (.ow (cLst (yTupOf yCn)) s12), some (.pl yInt k_11), none, none, none, none, none, none, none, none, none]) (a0 := paths_9) (passes_of rfl) rfl (di_range1 rfl bt.range (de_ixL (de_ownL (pv 2) rfl) (de_c (T := yInt) (a := (1 : Int)) pe_int (fun _ => rfl)))) (.keep (.keep (.keep (.keep (.keep (.keep (.keep (.keep (.keep (.keep (.keep (.keep (.keep (.keep (.keep .nil))))))))))))))) (fun (s12 : (List (List (Int × Int)))) => dg_name (pg_name (i := 5) sc.nd rfl (.inl rfl))) (fun (s12 : (List (List (Int × Int)))) (k_11 : Int) => ds_cons (ρ1 := fun (c20 : (List (Int × Int))) => [some (.pl (yScr yInt) script_p), some (.pl (yTup (tysC yInt (tys1 yInt))) board_here_1), some (.ow (cLst yInt) d_4), some (.pl yStr half_7), some (.ow (cLst (yTupOf yCn)) (s12 ++ [c20])), some (.pl yInt k_11), none, none, none, none, none, none, none, none, none]) (ds_append (pv 4) rfl (de_call c_drawn_path.ok (hr.mono (by decide)) rfl c_drawn_path.mg c_drawn_path.kp c_drawn_path.bd passC (da_cons (de_var (pv 1) rfl) (da_cons (de_var (pv 3) rfl) (da_cons (de_add (de_call c_cell.ok (hr.mono (by decide)) rfl c_cell.mg c_cell.kp c_cell.bd passC (da_cons (de_var (pv 0) rfl) (da_one (de_add (de_c (T := yInt) (a := (3 : Int)) pe_int (fun _ => rfl)) (de_var (pv 5) rfl)))) imm_int (wkN rfl)) (de_mul (de_c (T := yInt) (a := (104729 : Int)) pe_int (fun _ => rfl)) (de_var (pv 5) rfl))) (da_one (de_ownL (pv 4) rfl))))) (imm_tupOf (imm_tup (imm_C imm_int (imm_1 imm_int)))) (wkN rfl))) (fun (c20 : (List (Int × Int))) => ds_nil (c := (s12 ++ [c20])) (by first | exact .inl rfl | exact .inr rfl) (.keep (.keep (.keep (.keep (.keep (.drop (.keep (.keep (.keep (.keep (.keep (.keep (.keep (.keep (.keep .nil)))))))))))))))))) (fun (s23 : (List (List (Int × Int)))) => ds_cons (ρ1 := fun (says_24 : (List (List (Int × Int)))) => [some (.pl (yScr yInt) script_p), some (.pl (yTup (tysC yInt (tys1 yInt))) board_here_1), some (.ow (cLst yInt) d_4), some (.pl yStr half_7), some (.ow (cLst (yTupOf yCn)) s23), none, some (.ow (cLst (yLst yCn)) says_24), none, none, none, none, none, none, none, none]) (ds_setLc (i := 6) (own := [("_law_path_here", 14)]) (ρ' := fun (path_here_25 : (List (Int × Int))) => [some (.pl (yScr yInt) script_p), some (.pl (yTup (tysC yInt (tys1 yInt))) board_here_1), some (.ow (cLst yInt) d_4), some (.pl yStr half_7), some (.ow (cLst (yTupOf yCn)) s23), none, none, none, none, none, none, none, none, none, some (.pl (yTupOf yCn) path_here_25)]) (U := (yLst yCn)) rfl sc.nd rfl rfl rfl (dic_list (imm_tupOf (imm_tup (imm_C imm_int (imm_1 imm_int)))) (de_ownL (pv 4) rfl)) (blkOk_by (N := ["_law_script", "_law_board_here", "_law_d", "_law_half", "_law_paths", "_law_k", "_law_says", "_law_rings_here", "_law_handed", "_law_due", "_law_told", "_law_numbers", "_law_accepted", "_law_ring", "_law_path_here"]) (sc := defScope s_law) (by decide +kernel)) (fun _ _ _ _ _ => dgc (dg_name (pg_name (i := 14) sc.nd rfl (.inl rfl))) (by first | rfl | (dsimp only [Blk, Cx.blk, cxOf]; try rfl))) (by decide) (fun _ _ _ _ _ (path_here_25 : (List (Int × Int))) => dtc (dts_nil) (by first | rfl | (dsimp only [Blk, Cx.blk, cxOf]; try rfl))) (fun _ _ _ _ _ (path_here_25 : (List (Int × Int))) => dec (DE.fpL (de_callF c_sayings.ok (hr.mono (by decide)) rfl c_sayings.mg c_sayings.kp c_sayings.bd passC (da_cons (de_var (pv 1) rfl) (da_cons (de_var (pv 3) rfl) (da_one (de_var (pv 14) rfl)))) (imm_cLst (imm_tup (imm_C imm_int (imm_1 imm_int)))) (wkN rfl))) (by first | rfl | (dsimp only [Blk, Cx.blk, cxOf]; try rfl)))) (fun (says_24 : (List (List (Int × Int)))) => ds_cons (ρ1 := fun (rings_here_26 : (List (Int × Int × Int × Int))) => [some (.pl (yScr yInt) script_p), some (.pl (yTup (tysC yInt (tys1 yInt))) board_here_1), some (.ow (cLst yInt) d_4), some (.pl yStr half_7), some (.ow (cLst (yTupOf yCn)) s23), none, some (.ow (cLst (yLst yCn)) says_24), some (.ow (cLst (yTup (tysC yInt (tysC yInt (tysC yInt (tys1 yInt)))))) rings_here_26), none, none, none, none, none, none, none]) (ds_setF (i := 7) sc.nd rfl (.inl rfl) (de_callF c_rings.ok (hr.mono (by decide)) rfl c_rings.mg c_rings.kp c_rings.bd passC (da_one (de_ownL (pv 6) rfl)) (imm_cLst (imm_tup (imm_C imm_int (imm_C imm_int (imm_C imm_int (imm_1 imm_int)))))) (wkN rfl))) (fun (rings_here_26 : (List (Int × Int × Int × Int))) => ds_cons (ρ1 := fun (handed_27 : (List (List (Int × Int)))) => [some (.pl (yScr yInt) script_p), some (.pl (yTup (tysC yInt (tys1 yInt))) board_here_1), some (.ow (cLst yInt) d_4), some (.pl yStr half_7), some (.ow (cLst (yTupOf yCn)) s23), none, some (.ow (cLst (yLst yCn)) says_24), some (.ow (cLst (yTup (tysC yInt (tysC yInt (tysC yInt (tys1 yInt)))))) rings_here_26), some (.ow (cLst (yTupOf yCn)) handed_27), none, none, none, none, none, none]) (ds_setF (i := 8) sc.nd rfl (.inl rfl) (de_list1 sq_lst (imm_tupOf (imm_tup (imm_C imm_int (imm_1 imm_int)))) rfl bt.list (de_ownL (pv 4) rfl))) (fun (handed_27 : (List (List (Int × Int)))) => ds_cons (ρ1 := fun (s29 : (List (List (Int × Int)))) => [some (.pl (yScr yInt) script_p), some (.pl (yTup (tysC yInt (tys1 yInt))) board_here_1), some (.ow (cLst yInt) d_4), some (.pl yStr half_7), some (.ow (cLst (yTupOf yCn)) s23), none, some (.ow (cLst (yLst yCn)) says_24), some (.ow (cLst (yTup (tysC yInt (tysC yInt (tysC yInt (tys1 yInt)))))) rings_here_26), some (.pl (ySq (yTupOf yCn)) s29), none, none, none, none, none, none]) (ds_if1 (DQ.dt (dq_eqI (de_ixL (de_ownL (pv 2) rfl) (de_c (T := yInt) (a := (2 : Int)) pe_int (fun _ => rfl))) (de_c (T := yInt) (a := (1 : Int)) pe_int (fun _ => rfl)))) (ds_cons (ρ1 := fun (handed_30 : (List (List (Int × Int)))) => [some (.pl (yScr yInt) script_p), some (.pl (yTup (tysC yInt (tys1 yInt))) board_here_1), some (.ow (cLst yInt) d_4), some (.pl yStr half_7), some (.ow (cLst (yTupOf yCn)) s23), none, some (.ow (cLst (yLst yCn)) says_24), some (.ow (cLst (yTup (tysC yInt (tysC yInt (tysC yInt (tys1 yInt)))))) rings_here_26), some (.pl (yTupOf (yTupOf yCn)) handed_30), none, none, none, none, none, none]) (ds_set (i := 8) sc.nd rfl (.inl rfl) (de_tupleL (imm_tupOf (imm_tup (imm_C imm_int (imm_1 imm_int)))) rfl bt.tuple (de_ownL (pv 4) rfl))) (fun (handed_30 : (List (List (Int × Int)))) => ds_conv (i := 8) (U := (ySq (yTupOf yCn))) (f := fun a => a) rfl (sqOfT) (ds_nil (c := handed_30) (by first | exact .inl rfl | exact .inr rfl) (.keep (.keep (.keep (.keep (.keep (.keep (.keep (.keep (.keep (.keep (.keep (.keep (.keep (.keep (.keep .nil)))))))))))))))))) (ds_give (i := 8) rfl (ds_conv (i := 8) (U := (ySq (yTupOf yCn))) (f := fun a => a) rfl (sqOfL) (ds_nil (c := handed_27) (by first | exact .inl rfl | exact .inr rfl) (.keep (.keep (.keep (.keep (.keep (.keep (.keep (.keep (.keep (.keep (.keep (.keep (.keep (.keep (.keep .nil))))))))))))))))))) (fun (s29 : (List (List (Int × Int)))) => ds_cons (ρ1 := fun (due_32 : (List (Int × Int))) => [some (.pl (yScr yInt) script_p), some (.pl (yTup (tysC yInt (tys1 yInt))) board_here_1), some (.ow (cLst yInt) d_4), some (.pl yStr half_7), some (.ow (cLst (yTupOf yCn)) s23), none, some (.ow (cLst (yLst yCn)) says_24), some (.ow (cLst (yTup (tysC yInt (tysC yInt (tysC yInt (tys1 yInt)))))) rings_here_26), some (.pl (ySq (yTupOf yCn)) s29), some (.ow (cLst yCn) due_32), none, none, none, none, none]) (ds_setF (i := 9) sc.nd rfl (.inl rfl) (de_callF c_union.ok (hr.mono (by decide)) rfl c_union.mg c_union.kp c_union.bd passC (da_one (de_ownL (pv 6) rfl)) (imm_cLst (imm_tup (imm_C imm_int (imm_1 imm_int)))) (wkN rfl))) (fun (due_32 : (List (Int × Int))) => ds_cons (ρ1 := fun (told_33 : (List (Int × Int))) => [some (.pl (yScr yInt) script_p), some (.pl (yTup (tysC yInt (tys1 yInt))) board_here_1), some (.ow (cLst yInt) d_4), some (.pl yStr half_7), some (.ow (cLst (yTupOf yCn)) s23), none, some (.ow (cLst (yLst yCn)) says_24), some (.ow (cLst (yTup (tysC yInt (tysC yInt (tysC yInt (tys1 yInt)))))) rings_here_26), some (.pl (ySq (yTupOf yCn)) s29), some (.ow (cLst yCn) due_32), some (.ow (cLst yCn) told_33), none, none, none, none]) (ds_setF (i := 10) sc.nd rfl (.inl rfl) (de_callF c_said.ok (hr.mono (by decide)) rfl c_said.mg c_said.kp c_said.bd passC (da_cons (de_var (pv 1) rfl) (da_cons (de_var (pv 3) rfl) (da_one (de_var (pv 8) rfl)))) (imm_cLst (imm_tup (imm_C imm_int (imm_1 imm_int)))) (wkN rfl))) (fun (told_33 : (List (Int × Int))) => ds_ift (dt_not (dt_val (de_call c_is_row.ok (hr.mono (by decide)) rfl c_is_row.mg c_is_row.kp c_is_row.bd passC (da_cons (de_ownL (pv 10) rfl) (da_one (de_ownL (pv 9) rfl))) imm_bl (wkN rfl)))) (ds_one (ds_ret (f := (fun a => a)) (de_c (T := yBl) (a := false) pe_bl (fun _ => rfl)) (fun _ => rfl))) (fun _ => rfl) (ds_cons (ρ1 := fun (c36 : (Int × Int)) => [some (.pl (yScr yInt) script_p), some (.pl (yTup (tysC yInt (tys1 yInt))) board_here_1), some (.ow (cLst yInt) d_4), some (.pl yStr half_7), some (.ow (cLst (yTupOf yCn)) s23), none, some (.ow (cLst (yLst yCn)) says_24), some (.ow (cLst (yTup (tysC yInt (tysC yInt (tysC yInt (tys1 yInt)))))) rings_here_26), some (.pl (ySq (yTupOf yCn)) s29), some (.ow (cLst yCn) due_32), some (.ow (cLst yCn) (told_33 ++ [c36])), none, none, none, none]) (ds_append (pv 10) rfl (de_tup (dp_cons (de_c (T := yInt) (a := (0 : Int)) pe_int (fun _ => rfl)) (dp_one (de_c (T := yInt) (a := (1 : Int)) pe_int (fun _ => rfl)))))) (fun (c36 : (Int × Int)) => ds_ift (dt_not (dt_val (de_call c_is_row.ok (hr.mono (by decide)) rfl c_is_row.mg c_is_row.kp c_is_row.bd passC (da_cons (DE.fpL (de_callF c_said.ok (hr.mono (by decide)) rfl c_said.mg c_said.kp c_said.bd passC (da_cons (de_var (pv 1) rfl) (da_cons (de_var (pv 3) rfl) (da_one (de_var (pv 8) rfl)))) (imm_cLst (imm_tup (imm_C imm_int (imm_1 imm_int)))) (wkN rfl))) (da_one (de_ownL (pv 9) rfl))) imm_bl (wkN rfl)))) (ds_one (ds_ret (f := (fun a => a)) (de_c (T := yBl) (a := false) pe_bl (fun _ => rfl)) (fun _ => rfl))) (fun _ => rfl) (ds_seqX (f := (fun a => a)) (ρ1 := fun (s48 : Unit) => [some (.pl (yScr yInt) script_p), some (.pl (yTup (tysC yInt (tys1 yInt))) board_here_1), some (.ow (cLst yInt) d_4), some (.pl yStr half_7), some (.ow (cLst (yTupOf yCn)) s23), none, some (.ow (cLst (yLst yCn)) says_24), some (.ow (cLst (yTup (tysC yInt (tysC yInt (tysC yInt (tys1 yInt)))))) rings_here_26), some (.pl (ySq (yTupOf yCn)) s29), some (.ow (cLst yCn) due_32), some (.ow (cLst yCn) (told_33 ++ [c36])), none, none, none, none]) (ds_forX (eH := fun (s43 : Unit) => [some (.pl (yScr yInt) script_p), some (.pl (yTup (tysC yInt (tys1 yInt))) board_here_1), some (.ow (cLst yInt) d_4), some (.pl yStr half_7), some (.ow (cLst (yTupOf yCn)) s23), none, some (.ow (cLst (yLst yCn)) says_24), some (.ow (cLst (yTup (tysC yInt (tysC yInt (tysC yInt (tys1 yInt)))))) rings_here_26), some (.pl (ySq (yTupOf yCn)) s29), some (.ow (cLst yCn) due_32), some (.ow (cLst yCn) (told_33 ++ [c36])), none, none, none, none]) (eB := fun (s43 : Unit) (numbers_42 : (List Int)) => [some (.pl (yScr yInt) script_p), some (.pl (yTup (tysC yInt (tys1 yInt))) board_here_1), some (.ow (cLst yInt) d_4), some (.pl yStr half_7), some (.ow (cLst (yTupOf yCn)) s23), none, some (.ow (cLst (yLst yCn)) says_24), some (.ow (cLst (yTup (tysC yInt (tysC yInt (tysC yInt (tys1 yInt)))))) rings_here_26), some (.pl (ySq (yTupOf yCn)) s29), some (.ow (cLst yCn) due_32), some (.ow (cLst yCn) (told_33 ++ [c36])), some (.pl (yTupOf yInt) numbers_42), none, none, none]) (a0 := ()) (passes_of rfl) rfl (di_list (DE.fpL (de_callF c_certificates.ok (hr.mono (by decide)) rfl c_certificates.mg c_certificates.kp c_certificates.bd passC (da_cons (de_call c_cell.ok (hr.mono (by decide)) rfl c_cell.mg c_cell.kp c_cell.bd passC (da_cons (de_var (pv 0) rfl) (da_one (de_c (T := yInt) (a := (2 : Int)) pe_int (fun _ => rfl)))) imm_int (wkN rfl)) (da_cons (de_ownL (pv 7) rfl) (da_cons (de_len len_lst rfl bt.len (de_ownL (pv 4) rfl)) (da_one (de_add (de_nth (de_var (pv 1) rfl) nth_0) (de_nth (de_var (pv 1) rfl) (nth_s nth_1))))))) (imm_cLst (imm_tupOf imm_int)) (wkN rfl)))) (.keep (.keep (.keep (.keep (.keep (.keep (.keep (.keep (.keep (.keep (.keep (.keep (.keep (.keep (.keep .nil))))))))))))))) (fun (s43 : Unit) => dg_name (pg_name (i := 11) sc.nd rfl (.inl rfl))) (fun _ => ⟨_, rfl⟩) (fun (s43 : Unit) (numbers_42 : (List Int)) => ds_cons (ρ1 := fun (accepted_44 : Bool) => [some (.pl (yScr yInt) script_p), some (.pl (yTup (tysC yInt (tys1 yInt))) board_here_1), some (.ow (cLst yInt) d_4), some (.pl yStr half_7), some (.ow (cLst (yTupOf yCn)) s23), none, some (.ow (cLst (yLst yCn)) says_24), some (.ow (cLst (yTup (tysC yInt (tysC yInt (tysC yInt (tys1 yInt)))))) rings_here_26), some (.pl (ySq (yTupOf yCn)) s29), some (.ow (cLst yCn) due_32), some (.ow (cLst yCn) (told_33 ++ [c36])), some (.pl (yTupOf yInt) numbers_42), some (.pl yBl accepted_44), none, none]) (ds_set (i := 12) sc.nd rfl (.inl rfl) (de_call c_is_ring_own.ok (hr.mono (by decide)) rfl c_is_ring_own.mg c_is_ring_own.kp c_is_ring_own.bd passC (da_cons (de_var (pv 1) rfl) (da_cons (de_var (pv 3) rfl) (da_cons (de_var (pv 8) rfl) (da_one (de_var (pv 11) rfl))))) imm_bl (wkN rfl))) (fun (accepted_44 : Bool) => ds_one (ds_if1 (DW.dt (dw_or (dt_not (DQ.dt (dq_isi (cls := "bool") (isi_bl (b := true) (by decide +kernel)) rfl bt.isinstance (by decide +kernel) rfl bt.bool (by decide +kernel) (de_var (pv 12) rfl)))) (dw_or1 (DQ.dt (dq_ne q_bl (u64 hr) (lo rfl) (lo rfl) (de_var (pv 12) rfl) (de_call c_is_ring.ok (hr.mono (by decide)) rfl c_is_ring.mg c_is_ring.kp c_is_ring.bd passC (da_cons (de_var (pv 11) rfl) (da_one (de_ownL (pv 6) rfl))) imm_bl (wkN rfl))))))) (ds_one (ds_ret (f := (fun a => (.inr a))) (de_c (T := yBl) (a := false) pe_bl (fun _ => rfl)) (fun _ => rfl))) (ds_nil (c := (.inl ())) (by first | exact .inl rfl | exact .inr rfl) (.keep (.keep (.keep (.keep (.keep (.keep (.keep (.keep (.keep (.keep (.keep (.drop (.drop (.keep (.keep .nil)))))))))))))))))))) (fun (s48 : Unit) => ds_cons (ρ1 := fun (ring_49 : (Option (Int × Int × Int × Int))) => [some (.pl (yScr yInt) script_p), some (.pl (yTup (tysC yInt (tys1 yInt))) board_here_1), some (.ow (cLst yInt) d_4), some (.pl yStr half_7), some (.ow (cLst (yTupOf yCn)) s23), none, some (.ow (cLst (yLst yCn)) says_24), some (.ow (cLst (yTup (tysC yInt (tysC yInt (tysC yInt (tys1 yInt)))))) rings_here_26), some (.pl (ySq (yTupOf yCn)) s29), some (.ow (cLst yCn) due_32), some (.ow (cLst yCn) (told_33 ++ [c36])), none, none, some (.pl (yOpt (yTup (tysC yInt (tysC yInt (tysC yInt (tys1 yInt)))))) ring_49), none]) (ds_set (i := 13) sc.nd rfl (.inl rfl) (de_call c_find_ring.ok (hr.mono (by decide)) rfl c_find_ring.mg c_find_ring.kp c_find_ring.bd passC (da_cons (de_var (pv 1) rfl) (da_cons (de_var (pv 3) rfl) (da_one (de_var (pv 8) rfl)))) (imm_opt (imm_tup (imm_C imm_int (imm_C imm_int (imm_C imm_int (imm_1 imm_int)))))) (wkN rfl))) (fun (ring_49 : (Option (Int × Int × Int × Int))) => ds_ift (DQ.dt (dq_eqI (de_len len_lst rfl bt.len (de_ownL (pv 7) rfl)) (de_c (T := yInt) (a := (0 : Int)) pe_int (fun _ => rfl)))) (ds_one (ds_ret (f := (fun a => a)) (de_and (DQ.de (dq_isN (de_var (pv 13) rfl))) (de_one (DQ.de (dq_eq (q_lst (q_tupOf (q_tup (q_C q_int (q_1 q_int))))) (u64 hr) (lo rfl) (lo rfl) (DE.fpL (de_list1 sq_sq (imm_tupOf (imm_tup (imm_C imm_int (imm_1 imm_int)))) rfl bt.list (de_var (pv 8) rfl))) (de_ownL (pv 4) rfl))))) (fun _ => rfl))) (fun _ => rfl) (ds_ift (dt_not (dt_val (de_call c_is_ring_2.ok (hr.mono (by decide)) rfl c_is_ring_2.mg c_is_ring_2.kp c_is_ring_2.bd passC (da_cons (de_var (pv 13) rfl) (da_one (de_ownL (pv 6) rfl))) imm_bl (wkN rfl)))) (ds_one (ds_ret (f := (fun a => a)) (de_c (T := yBl) (a := false) pe_bl (fun _ => rfl)) (fun _ => rfl))) (fun _ => rfl) (ds_cons (ρ1 := fun (accepted_51 : Bool) => [some (.pl (yScr yInt) script_p), some (.pl (yTup (tysC yInt (tys1 yInt))) board_here_1), some (.ow (cLst yInt) d_4), some (.pl yStr half_7), some (.ow (cLst (yTupOf yCn)) s23), none, some (.ow (cLst (yLst yCn)) says_24), some (.ow (cLst (yTup (tysC yInt (tysC yInt (tysC yInt (tys1 yInt)))))) rings_here_26), some (.pl (ySq (yTupOf yCn)) s29), some (.ow (cLst yCn) due_32), some (.ow (cLst yCn) (told_33 ++ [c36])), none, some (.pl yBl accepted_51), some (.pl (yOpt (yTup (tysC yInt (tysC yInt (tysC yInt (tys1 yInt)))))) ring_49), none]) (ds_set (i := 12) sc.nd rfl (.inl rfl) (de_call c_is_ring_own_2.ok (hr.mono (by decide)) rfl c_is_ring_own_2.mg c_is_ring_own_2.kp c_is_ring_own_2.bd passC (da_cons (de_var (pv 1) rfl) (da_cons (de_var (pv 3) rfl) (da_cons (de_var (pv 8) rfl) (da_one (de_var (pv 13) rfl))))) imm_bl (wkN rfl))) (fun (accepted_51 : Bool) => ds_one (ds_ret (f := (fun a => a)) (de_and (DQ.de (dq_isi (cls := "bool") (isi_bl (b := true) (by decide +kernel)) rfl bt.isinstance (by decide +kernel) rfl bt.bool (by decide +kernel) (de_var (pv 12) rfl))) (de_and (de_var (pv 12) rfl) (de_one (DQ.de (dq_eq (q_lst (q_tupOf (q_tup (q_C q_int (q_1 q_int))))) (u64 hr) (lo rfl) (lo rfl) (DE.fpL (de_list1 sq_sq (imm_tupOf (imm_tup (imm_C imm_int (imm_1 imm_int)))) rfl bt.list (de_var (pv 8) rfl))) (de_ownL (pv 4) rfl)))))) (fun _ => rfl))))))) (fun x => by first | exact ⟨rfl, trivial⟩ | (cases x <;> exact ⟨rfl, trivial⟩))))))))))))))))) (by unfold m_law; simp only [bo, isIn_dec, andok, orok]), fun _ => .inl rfl⟩
theorem draws_wp {c : Int} {sz : List Int} {P : List Int → Prop} (h : ∀ x ∈ sz, 0 < x ∧ x < 1073741824) (hl : sz.length ≤ 1000000)
    (hp : ∀ d : List Int, d.length = sz.length → (∀ (i : Nat) (x y : Int), d[i]? = some x → sz[i]? = some y → 0 ≤ x ∧ x < y) → P d) : wp (m_draws c sz) P := by
  unfold m_draws
  simp only [wp_bind, wp_ok]
  refine wp_pow (by omega) (by omega) ?_
  refine wp_rng (by omega) (by omega) (by omega) (by omega) ?_
  refine wp_forSn (fun i s => s.1.length = i ∧ ∀ (j : Nat) (x y : Int), s.1[j]? = some x → sz[j]? = some y → 0 ≤ x ∧ x < y) ⟨rfl, fun j x y e => by simp at e⟩ (fun i k hk s ⟨s1, s2⟩ => ?_) (fun s ⟨s1, s2⟩ => hp _ ?_ s2)
  · obtain ⟨rfl, hi⟩ := rng_get hk
    have key : ∀ (v : Int), (∀ y, sz[i]? = some y → 0 ≤ v ∧ v < y) → ∀ (j : Nat) (x y : Int), (s.1 ++ [v])[j]? = some x → sz[j]? = some y → 0 ≤ x ∧ x < y := by
      intro v hv j x y e1 e2
      rw [List.getElem?_append] at e1
      split at e1
      · exact s2 j x y e1 e2
      · have : j = i := by
          have := (List.getElem?_eq_some_iff.mp e1).1
          simp at this
          omega
        subst this
        simp [s1] at e1
        subst e1
        exact hv y e2
    rw [wp_bind]
    refine wp_ix (by omega) (by omega) fun hi2 => ?_
    have hs := h _ (List.getElem_mem hi2)
    have hsz : ∀ y, sz[i]? = some y → y = sz[(0 + (i : Int)).toNat] := fun y e => by
      have e2 : (0 + (i : Int)).toNat = i := by omega
      simp only [e2]
      rw [List.getElem?_eq_getElem (by omega)] at e
      exact (Option.some.inj e).symm
    generalize sz[(0 + (i : Int)).toNat] = z at hs hsz
    refine wp_ite.mpr ⟨fun hc => ?_, fun hc => ?_⟩
    · simp only [wp_bind, wp_ok]
      refine wp_mod hs.1 (wp_app (by omega) (wp_div hs ?_))
      exact ⟨by simp [s1], key _ fun y e => by rw [hsz y e]; exact ⟨Int.emod_nonneg _ (by omega), Int.emod_lt_of_pos _ hs.1⟩⟩
    · simp only [wp_bind, wp_ok]
      refine wp_mul (.inl (by omega)) (wp_mod (by omega) ?_)
      have h1 := Int.emod_nonneg (c + 7919 * (0 + (i : Int)) + 13) (show (2147483647 : Int) ≠ 0 by omega)
      have h2 := Int.emod_lt_of_pos (c + 7919 * (0 + (i : Int)) + 13) (show (0 : Int) < 2147483647 by omega)
      generalize (c + 7919 * (0 + (i : Int)) + 13) % 2147483647 = m1 at h1 h2
      refine wp_mul (.inl (by omega)) (wp_mod (by omega) ?_)
      have h3 := Int.emod_nonneg (m1 * (m1 + 48271)) (show (2147483629 : Int) ≠ 0 by omega)
      have h4 := Int.emod_lt_of_pos (m1 * (m1 + 48271)) (show (0 : Int) < 2147483629 by omega)
      generalize (m1 * (m1 + 48271)) % 2147483629 = m2 at h3 h4
      refine wp_mul (.inl (by omega)) (wp_mul (.inl (by omega)) (wp_mod (by omega) (wp_div (by omega) (wp_mod hs.1 (wp_app (by omega) ?_)))))
      exact ⟨by simp [s1], key _ fun y e => by rw [hsz y e]; exact ⟨Int.emod_nonneg _ (by omega), Int.emod_lt_of_pos _ hs.1⟩⟩
  · rw [s1, rng_len]; omega
theorem dix {d sz : List Int} {i y : Int} {P : Int → Prop} (hl : d.length = sz.length) (hd : ∀ (i : Nat) (x y : Int), d[i]? = some x → sz[i]? = some y → 0 ≤ x ∧ x < y) (h0 : 0 ≤ i) (hy : sz[i.toNat]? = some y) (h : ∀ x, 0 ≤ x → x < y → P x) : wp (rIx d i : R Er Int) P := by
  have hlt : i.toNat < d.length := by rw [hl]; exact (List.getElem?_eq_some_iff.mp hy).1
  refine wp_ix h0 (by omega) fun hi => ?_
  obtain ⟨h1, h2⟩ := hd i.toNat _ y (List.getElem?_eq_getElem hi) hy
  exact h _ h1 h2
theorem cell_wp {ns : List Int} {k : Int} {P : Int → Prop} (h0 : 0 ≤ k) (h : ∀ x, P x) : wp (m_cell ns k) P := by
  unfold m_cell
  refine wp_ite.mpr ⟨fun hc => ?_, fun _ => wp_ok.mpr (h _)⟩
  rw [wp_bind]
  refine wp_ix h0 (by simpa using hc) fun _ => wp_ok.mpr (h _)
theorem board_wp {c : Int} {P : Int × Int → Prop} (h : ∀ b : Int × Int, 0 ≤ b.1 → b.1 ≤ 8 → 0 ≤ b.2 → b.2 ≤ 8 → P b) : wp (m_board c 8) P := by
  unfold m_board
  rw [wp_bind]
  refine draws_wp (by simp) (by simp) fun d hl hd => ?_
  match d, hl with
  | [a, b, c, d, e], _ =>
    have h0 := hd 0 a _ rfl rfl
    have h1 := hd 1 b _ rfl rfl
    have h2 := hd 2 c _ rfl rfl
    have h3 := hd 3 d _ rfl rfl
    have h4 := hd 4 e _ rfl rfl
    have e0 : (rIx [a, b, c, d, e] 0 : R Er Int) = .ok a := rfl
    have e1 : (rIx [a, b, c, d, e] 1 : R Er Int) = .ok b := rfl
    have e2 : (rIx [a, b, c, d, e] 2 : R Er Int) = .ok c := rfl
    have e3 : (rIx [a, b, c, d, e] 3 : R Er Int) = .ok d := rfl
    have e4 : (rIx [a, b, c, d, e] 4 : R Er Int) = .ok e := rfl
    rw [e0, e1, e2, e3, e4]
    simp only [wp_bind, wp_ok]
    refine wp_ite.mpr ⟨fun _ => ?_, fun _ => ?_⟩
    · simp only [wp_bind, wp_ok]
      exact h _ (by simp; omega) (by simp; omega) (by simp; omega) (by simp; omega)
    · simp only [wp_bind, wp_ok]
      exact h _ (by simp; omega) (by simp; omega) (by simp; omega) (by simp; omega)
theorem moved_wp {c : Int × Int} {l : PySem.Str} {P : Int × Int → Prop} (h : ∀ x, P x) : wp (m_moved c l) P := by
  unfold m_moved
  refine wp_ite.mpr ⟨fun _ => wp_ok.mpr (h _), fun _ => wp_ite.mpr ⟨fun _ => wp_ok.mpr (h _), fun _ => wp_ok.mpr (h _)⟩⟩
theorem onb_wp {b c : Int × Int} {P : Bool → Prop} (h : ∀ x, P x) : wp (m_on_board b c) P := by
  unfold m_on_board
  simp only [wp_bind, wp_ok]
  refine wp_ite.mpr ⟨fun _ => wp_ok.mpr ?_, fun _ => wp_ok.mpr ?_⟩
  · refine wp_ite.mpr ⟨fun _ => wp_ite.mpr ⟨fun _ => wp_ok.mpr (h _), fun _ => wp_ok.mpr (h _)⟩, fun _ => wp_ok.mpr (h _)⟩
  · refine wp_ite.mpr ⟨fun _ => wp_ite.mpr ⟨fun _ => wp_ok.mpr (h _), fun _ => wp_ok.mpr (h _)⟩, fun _ => wp_ok.mpr (h _)⟩
/-- a path as the law's defs make them -/
def Pt (p : List (Int × Int)) : Prop := p ≠ [] ∧ p.length ≤ 17
/-- turned round where it ends ahead of its start -/
theorem turn_wp {r : List (Int × Int)} {P : List (Int × Int) → Prop} (hr : Pt r) (h : ∀ r, Pt r → P r) : wp (((((rIx r (-(1 : Int)))).bind fun v26 => ((rIx r (0 : Int))).bind fun v27 => R.ok (ltC v26 v27)).bind fun v30 => if v30 then ((R.ok (List.reverse r)).bind fun (row_29 : (List (Int × Int))) => R.ok row_29) else (R.ok r)).bind fun s28 => (R.ok s28 : R Er _)) P := by
  simp only [wp_bind, wp_ok]
  have hl := List.length_pos_iff.mpr hr.1
  refine wp_last hr.1 (wp_ix (by omega) (by omega) fun _ => wp_ite.mpr ⟨fun _ => ?_, fun _ => ?_⟩)
  · exact wp_ok.mpr (h _ ⟨by simpa using hr.1, by simpa using hr.2⟩)
  · exact wp_ok.mpr (h _ hr)
theorem ns_ix {v : Int} {P : PySem.Str → Prop} (h0 : 0 ≤ v) (h1 : v < 2) (h : ∀ x, P x) : wp (rIx ([("N" : PySem.Str), ("S" : PySem.Str)] : List PySem.Str) v : R Er _) P := wp_ix h0 (by simp; omega) fun _ => h _
theorem path_wp {b : Int × Int} {c : Int} {P : List (Int × Int) → Prop} (h1 : 0 ≤ b.1) (h2 : b.1 ≤ 8) (h3 : 0 ≤ b.2) (h4 : b.2 ≤ 8) (h : ∀ p, Pt p → P p) : wp (m_path b c) P := by
  unfold m_path
  simp only [wp_bind, wp_ok]
  refine wp_rep (by omega) (by simp) (wp_cat (by simp) ?_)
  rw [show (16 : Int).toNat = 16 from rfl, rep1]
  refine draws_wp (by simp; omega) (by simp) fun d hl hd => ?_
  refine dix hl hd (y := b.1 + 1) (by omega) rfl fun d0 _ _ => dix hl hd (y := b.2 + 1) (by omega) rfl fun d1 _ _ => dix hl hd (y := 17) (by omega) rfl fun d3 h5 h6 => ?_
  refine wp_rng (by omega) (by omega) (by omega) (by omega) ?_
  refine wp_forSn (fun i s => s ≠ [] ∧ s.length ≤ i + 1) ⟨by simp, by simp⟩ (fun i k hk s ⟨s1, s2⟩ => ?_) (fun s ⟨s1, s2⟩ => ?_)
  · obtain ⟨rfl, hi⟩ := rng_get hk
    have hi16 : i < 16 := by omega
    simp only [wp_bind, wp_ok]
    refine dix hl hd (y := 2) (by omega) ?_ fun v _ _ => ?_
    · rw [show (4 + (0 + (i : Int))).toNat = 4 + i by omega]
      rw [List.getElem?_append_right (by show 4 ≤ _; omega), List.getElem?_replicate, if_pos (by show _ - 4 < _; omega)]
    have nx : ∀ l : PySem.Str, wp (((((rIx s (-(1 : Int)))).bind fun v19 => R.ok (v19, l)).bind fun v20 => (m_moved v20.1 v20.2)).bind fun (corner_18 : (Int × Int)) =>
        ((m_on_board b corner_18)).bind fun v23 => if v23 then (((rApp s corner_18)).bind fun (c22 : (Int × Int)) => R.ok (s ++ [c22])) else (R.ok s)) fun s => s ≠ [] ∧ s.length ≤ i + 1 + 1 := by
      intro l
      simp only [wp_bind, wp_ok]
      refine wp_last s1 (moved_wp fun x => onb_wp fun y => wp_ite.mpr ⟨fun _ => ?_, fun _ => wp_ok.mpr ⟨s1, by omega⟩⟩)
      simp only [wp_bind, wp_ok]
      exact wp_app (by omega) ⟨by simp, by simp; omega⟩
    simp only [wp_bind, wp_ok] at nx
    refine wp_ite.mpr ⟨fun _ => ?_, fun _ => wp_ok.mpr (nx _)⟩
    simp only [wp_bind, wp_ok]
    exact dix hl hd (y := 2) (by omega) rfl fun v h7 h8 => ns_ix h7 h8 fun x => nx x
  · rw [rng_len] at s2
    have := turn_wp (P := P) (r := s) ⟨s1, by omega⟩ h
    simp only [wp_bind, wp_ok] at this
    exact this
theorem part_wp {p : List (Int × Int)} {i j : Int} {P : List (Int × Int) → Prop} (hp : Pt p) (hi : 0 ≤ i) (hi2 : i < p.length) (hj : 0 ≤ j) (hj2 : j < p.length) (h : ∀ p, Pt p → P p) : wp (m_part p i j) P := by
  unfold m_part
  obtain ⟨h1, h2⟩ := hp
  rw [wp_bind, wp_ok]
  refine turn_wp ⟨?_, ?_⟩ h
  · rw [← List.length_pos_iff]
    unfold cut
    have e1 : HT.sIx p.length 0 (some (if j < i then j else i)) = (if j < i then j else i).toNat := by
      show (if (if j < i then j else i) < 0 then _ else _) = _
      split
      · split <;> omega
      · split <;> omega
    have e2 : HT.sIx p.length p.length (some ((if j > i then j else i) + 1)) = ((if j > i then j else i) + 1).toNat := by
      show (if ((if j > i then j else i) + 1) < 0 then _ else _) = _
      split
      · split <;> omega
      · split <;> omega
    rw [List.length_take, List.length_drop, e1, e2]
    split <;> split <;> omega
  · unfold cut
    rw [List.length_take, List.length_drop]
    omega
/-! ### loops that append -/
theorem forS_app {α β : Type} {f : α → List β → R Er (List β)} {g : α → List β} {N : Nat} : ∀ {l : List α} {s : List β}, (∀ x ∈ l, ∀ s : List β, s.length + (g x).length ≤ N → f x s = .ok (s ++ g x)) → s.length + (l.flatMap g).length ≤ N → forS f l s = .ok (s ++ l.flatMap g)
  | [], s, _, _ => by rw [List.flatMap_nil, List.append_nil]; rfl
  | x :: l, s, h, hN => by
    rw [List.flatMap_cons, List.length_append] at hN
    unfold forS
    rw [h x List.mem_cons_self s (by omega), R.bind_ok, forS_app (fun y hy => h y (List.mem_cons_of_mem _ hy)) (by rw [List.length_append]; omega), List.flatMap_cons, List.append_assoc]
theorem map_flat {α β : Type} (f : α → β) : ∀ l : List α, l.map f = l.flatMap fun x => [f x]
  | [] => rfl
  | x :: l => by rw [List.map_cons, List.flatMap_cons, map_flat f l]; rfl
theorem flat_len {α β : Type} {g : α → List β} {c : Nat} : ∀ {l : List α}, (∀ x ∈ l, (g x).length ≤ c) → (l.flatMap g).length ≤ l.length * c
  | [], _ => Nat.zero_le _
  | x :: l, h => by
    rw [List.flatMap_cons, List.length_append, List.length_cons, Nat.succ_mul]
    have := h x List.mem_cons_self
    have := flat_len fun y hy => h y (List.mem_cons_of_mem _ hy)
    omega
theorem lc2_pure {α β γ : Type} {ml1 : α → R Er (List β)} {f : α → β → R Er γ} (l1 : α → List β) (g : α → β → γ) : ∀ {l : List α}, (∀ x ∈ l, ml1 x = .ok (l1 x)) → (∀ x ∈ l, ∀ y ∈ l1 x, f x y = .ok (g x y)) → lc2M (fun _ => .ok true) ml1 (fun _ _ => .ok true) f l = .ok (l.flatMap fun x => (l1 x).map (g x))
  | [], _, _ => rfl
  | x :: l, h1, h2 => by
    unfold lc2M
    have e : lcM (fun _ => R.ok true) (f x) (l1 x) = .ok ((l1 x).map (g x)) := by
      have := lcM_pure (ε := Er) (mt := fun _ => .ok true) (f := f x) (fun _ => true) (g x) (l := l1 x) (fun _ _ => rfl) (fun y hy _ => h2 x List.mem_cons_self y hy)
      rw [List.filter_eq_self.mpr fun _ _ => rfl] at this
      exact this
    rw [R.bind_ok, if_pos rfl, h1 x List.mem_cons_self, R.bind_ok, e, R.bind_ok, lc2_pure l1 g (fun y hy => h1 y (List.mem_cons_of_mem _ hy)) (fun y hy => h2 y (List.mem_cons_of_mem _ hy)), R.bind_ok, List.flatMap_cons]
theorem lc2R_ok {α β γ : Type} {ml1 : α → R Er (List β)} {f : α → β → R Er γ} (l1 : α → List β) (g : α → β → γ) {l : List α} (h1 : ∀ x ∈ l, ml1 x = .ok (l1 x)) (h2 : ∀ x ∈ l, ∀ y ∈ l1 x, f x y = .ok (g x y)) (hl : (l.flatMap fun x => (l1 x).map (g x)).length ≤ 16777216) : lc2R (fun _ => .ok true) ml1 (fun _ _ => .ok true) f l = .ok (l.flatMap fun x => (l1 x).map (g x)) := by
  unfold lc2R
  rw [lc2_pure l1 g h1 h2]
  simp only
  rw [if_pos (by rw [sizeLine_eq]; exact hl)]
/-! ### the sayings of a path -/
abbrev pg (p : List (Int × Int)) (k : Int) : Int × Int := p.getD k.toNat (0, 0)
theorem pg_ix {p : List (Int × Int)} {k : Int} (h0 : 0 ≤ k) (h1 : k < p.length) : (rIx p k : R Er _) = .ok (pg p k) := by
  rw [rIx_ok h0 h1]
  show _ = R.ok (p.getD k.toNat (0, 0))
  rw [List.getD_eq_getElem?_getD, List.getElem?_eq_getElem (by omega)]; rfl
def steep (p : List (Int × Int)) (s : Int) : List Int := ((rng 0 ((p.length : Int) - 1)).filter fun k => !decide ((pg p k).2 = (pg p (k + 1)).2)).map fun k => s + k
def flatp (p : List (Int × Int)) (s : Int) : List Int := ((rng 0 ((p.length : Int) - 1)).filter fun k => decide ((pg p k).2 = (pg p (k + 1)).2)).map fun k => s + k
def pairs (a b : List Int) : List (Int × Int) := a.flatMap fun s => b.map fun t => (s, t)
def slotp (b : Int × Int) (h : PySem.Str) (a : Int × Int) : Int := if h = ("rising" : PySem.Str) then a.1 + a.2 else a.1 + b.2 - a.2
def Hf (h : PySem.Str) : Prop := h = ("rising" : PySem.Str) ∨ h = ("falling" : PySem.Str)
theorem rf : ("rising" : PySem.Str) ≠ ("falling" : PySem.Str) := by decide
theorem steep_len {p : List (Int × Int)} (h : p.length ≤ 17) (s : Int) : (steep p s).length ≤ 16 := by
  unfold steep
  rw [List.length_map]
  exact Nat.le_trans (List.length_filter_le ..) (by rw [rng_len]; omega)
theorem flatp_len {p : List (Int × Int)} (h : p.length ≤ 17) (s : Int) : (flatp p s).length ≤ 16 := by
  unfold flatp
  rw [List.length_map]
  exact Nat.le_trans (List.length_filter_le ..) (by rw [rng_len]; omega)
theorem pairs_len {a b : List Int} (ha : a.length ≤ 16) (hb : b.length ≤ 16) : (pairs a b).length ≤ 256 := by
  unfold pairs
  have := flat_len (l := a) (g := fun s => b.map fun t => (s, t)) (c := 16) fun x _ => by rw [List.length_map]; exact hb
  omega
def dull (p : List (Int × Int)) (h : PySem.Str) : Bool := decide ((pg p 0).1 = (p.getLastD (0, 0)).1) || (decide ((pg p 0).2 = (p.getLastD (0, 0)).2) || !decide (decide (h = ("rising" : PySem.Str)) = decide ((pg p 0).2 < (p.getLastD (0, 0)).2)))
def sayOf (b : Int × Int) (h : PySem.Str) (p : List (Int × Int)) : List (Int × Int) := if dull p h = true then [] else pairs (steep p (slotp b h (pg p 0))) (flatp p (slotp b h (pg p 0)))
theorem sayOf_len {b : Int × Int} {h : PySem.Str} {p : List (Int × Int)} (hp : Pt p) : (sayOf b h p).length ≤ 256 := by
  unfold sayOf
  split
  · exact Nat.zero_le _
  · exact pairs_len (steep_len hp.2 _) (flatp_len hp.2 _)
theorem last_ix {p : List (Int × Int)} (hp : Pt p) : (rIx p (-1) : R Er _) = .ok (p.getLastD (0, 0)) := by
  rw [rIx_last hp.1, List.getLastD_eq_getLast?, List.getLast?_eq_some_getLast hp.1]
  rfl
theorem first_ix {p : List (Int × Int)} (hp : Pt p) : (rIx p 0 : R Er _) = .ok (pg p 0) := by
  have := List.length_pos_iff.mpr hp.1
  exact pg_ix (by omega) (by omega)
theorem steep_lc {p : List (Int × Int)} (hp : Pt p) (s : Int) : ((rRng 0 ((List.length p : Int) - (1 : Int)))).bind (fun v7 => (lcR (fun (k_2 : Int) => (((rIx p k_2)).bind fun v3 => R.ok v3.2).bind fun v5 => (((rIx p (k_2 + (1 : Int)))).bind fun v4 => R.ok v4.2).bind fun v6 => R.ok (!decide (v5 = v6))) (fun (k_2 : Int) => (R.ok (s + k_2))) v7)) = (.ok (steep p s) : R Er _) := by
  have h2 := hp.2
  have := List.length_pos_iff.mpr hp.1
  refine wp.eq ?_
  rw [wp_bind]
  refine wp_rng (by omega) (by omega) (by omega) (by omega) (wp_lc (fun k => !decide ((pg p k).2 = (pg p (k + 1)).2)) (fun k => s + k) (by rw [rng_len]; omega) (fun k hk => ?_) (fun _ _ _ => rfl) rfl)
  rw [rng_mem] at hk
  rw [pg_ix hk.1 (by omega), pg_ix (by omega) (by omega)]
  rfl
theorem flat_lc {p : List (Int × Int)} (hp : Pt p) (s : Int) : ((rRng 0 ((List.length p : Int) - (1 : Int)))).bind (fun v7 => (lcR (fun (k_2 : Int) => (((rIx p k_2)).bind fun v3 => R.ok v3.2).bind fun v5 => (((rIx p (k_2 + (1 : Int)))).bind fun v4 => R.ok v4.2).bind fun v6 => R.ok (decide (v5 = v6))) (fun (k_2 : Int) => (R.ok (s + k_2))) v7)) = (.ok (flatp p s) : R Er _) := by
  have h2 := hp.2
  have := List.length_pos_iff.mpr hp.1
  refine wp.eq ?_
  rw [wp_bind]
  refine wp_rng (by omega) (by omega) (by omega) (by omega) (wp_lc (fun k => decide ((pg p k).2 = (pg p (k + 1)).2)) (fun k => s + k) (by rw [rng_len]; omega) (fun k hk => ?_) (fun _ _ _ => rfl) rfl)
  rw [rng_mem] at hk
  rw [pg_ix hk.1 (by omega), pg_ix (by omega) (by omega)]
  rfl
theorem sayings_eq {b : Int × Int} {h : PySem.Str} {p : List (Int × Int)} (hh : Hf h) (hp : Pt p) : m_sayings b h p = .ok (sayOf b h p) := by
  unfold m_sayings
  rw [first_ix hp, last_ix hp]
  simp only [R.bind_ok]
  show (if dull p h = true then _ else _) = _
  unfold sayOf
  by_cases hd : dull p h = true
  · rw [if_pos hd, if_pos hd]
  rw [if_neg hd, if_neg hd]
  have es : (if decide (h = ("falling" : PySem.Str)) = true then (R.ok (((pg p 0).1 + b.2) - (pg p 0).2)) else (R.ok ((pg p 0).1 + (pg p 0).2)) : R Er Int) = .ok (slotp b h (pg p 0)) := by
    unfold slotp
    rcases hh with rfl | rfl
    · rw [if_neg (by simp [rf]), if_pos rfl]
    · rw [if_pos (by simp), if_neg (Ne.symm rf)]
  rw [es]
  simp only [R.bind_ok]
  generalize slotp b h (pg p 0) = s
  rw [steep_lc hp s]
  simp only [R.bind_ok]
  rw [flat_lc hp s]
  simp only [R.bind_ok]
  have l1 := steep_len hp.2 s
  have l2 := flatp_len hp.2 s
  generalize steep p s = a at l1
  generalize flatp p s = c at l2
  have hlen := pairs_len l1 l2
  rw [forS_app (N := 16777216) (g := fun s => c.map fun t => (s, t)) (fun x _ s hs => ?_) (by rw [List.length_nil]; unfold pairs at hlen; omega)]
  · rfl
  · have e : (c.map fun t => (x, t)) = c.flatMap fun t => [(x, t)] := by
      exact map_flat _ _
    rw [List.length_map] at hs
    rw [forS_app (N := 16777216) (g := fun t => [(x, t)]) (fun y _ s hs => ?_) (by rw [← e, List.length_map]; exact hs), R.bind_ok, e]
    · rw [show [(x, y)].length = 1 from rfl] at hs
      rw [(wp_app (P := (· = (x, y))) (by omega) rfl).eq]
      rfl
theorem slot_eq {b : Int × Int} {h : PySem.Str} {a : Int × Int} : m_slot_of b h a = .ok (slotp b h a) := by
  unfold m_slot_of slotp
  by_cases e : h = ("rising" : PySem.Str)
  · rw [if_pos e, if_pos (decide_eq_true e)]
  · rw [if_neg e, if_neg (by simpa using e)]
theorem row_eq {p : List (Int × Int)} (hp : Pt p) (s : Int) : m_sayings_of_row s p = .ok (pairs (steep p s) (flatp p s)) := by
  unfold m_sayings_of_row
  rw [steep_lc hp s]
  simp only [R.bind_ok]
  rw [flat_lc hp s]
  simp only [R.bind_ok]
  have hlen := pairs_len (steep_len hp.2 s) (flatp_len hp.2 s)
  rw [lc2R_ok (fun _ => flatp p s) (fun s t => (s, t)) (fun _ _ => rfl) (fun _ _ _ _ => rfl) (by unfold pairs at hlen; omega)]
  rfl
def kindOf (p : List (Int × Int)) : PySem.Str := if p.length = 1 then ("point" : PySem.Str) else if (pg p 0).1 = (p.getLastD (0, 0)).1 ∨ (pg p 0).2 = (p.getLastD (0, 0)).2 then ("straight" : PySem.Str) else if (pg p 0).2 < (p.getLastD (0, 0)).2 then ("rising" : PySem.Str) else ("falling" : PySem.Str)
theorem kind_eq {p : List (Int × Int)} (hp : Pt p) : m_path_kind p = .ok (kindOf p) := by
  unfold m_path_kind kindOf
  by_cases e : p.length = 1
  · rw [if_pos e, if_pos (decide_eq_true (by omega))]
  rw [if_neg e, if_neg (by simp; omega), first_ix hp, last_ix hp]
  simp only [R.bind_ok]
  unfold m_half_of
  by_cases e2 : (pg p 0).1 = (p.getLastD (0, 0)).1 ∨ (pg p 0).2 = (p.getLastD (0, 0)).2
  · rw [if_pos e2, if_pos (by simpa using e2)]; rfl
  rw [if_neg e2, if_neg (by simpa using e2)]
  by_cases e3 : (pg p 0).2 < (p.getLastD (0, 0)).2
  · rw [if_pos e3, if_pos (decide_eq_true e3)]; rfl
  · rw [if_neg e3, if_neg (by simpa using e3)]; rfl
theorem len1 {p : List (Int × Int)} (e : p.length = 1) : pg p 0 = p.getLastD (0, 0) := by
  match p, e with
  | [a], _ => rfl
theorem kind_dull {p : List (Int × Int)} {h : PySem.Str} (hh : Hf h) : (kindOf p = h) ↔ ¬ dull p h = true := by
  have e1 : ("point" : PySem.Str) ≠ ("rising" : PySem.Str) := by decide
  have e2 : ("point" : PySem.Str) ≠ ("falling" : PySem.Str) := by decide
  have e3 : ("straight" : PySem.Str) ≠ ("rising" : PySem.Str) := by decide
  have e4 : ("straight" : PySem.Str) ≠ ("falling" : PySem.Str) := by decide
  have e5 := rf
  have hl := len1 (p := p)
  unfold kindOf dull
  generalize pg p 0 = a at hl
  generalize p.getLastD (0, 0) = z at hl
  by_cases c1 : p.length = 1
  · rw [if_pos c1, hl c1]
    rcases hh with rfl | rfl <;> simp [e1, e2]
  rw [if_neg c1]
  by_cases c2 : a.1 = z.1 ∨ a.2 = z.2
  · rw [if_pos c2]
    rcases c2 with c2 | c2 <;> rcases hh with rfl | rfl <;> simp [e3, e4, c2]
  rw [if_neg c2]
  have c2' := not_or.mp c2
  by_cases c3 : a.2 < z.2
  · rw [if_pos c3]
    rcases hh with rfl | rfl <;> simp [c2'.1, c2'.2, c3, rf, Ne.symm rf]
  · rw [if_neg c3]
    rcases hh with rfl | rfl <;> simp [c2'.1, c2'.2, c3, rf, Ne.symm rf]
theorem own_eq {b : Int × Int} {h : PySem.Str} {p : List (Int × Int)} (hh : Hf h) (hp : Pt p) : m_sayings_of_path b h p = .ok (sayOf b h p) := by
  unfold m_sayings_of_path
  rw [kind_eq hp, first_ix hp]
  simp only [R.bind_ok, slot_eq]
  rw [row_eq hp]
  simp only [R.bind_ok]
  unfold sayOf
  have k := kind_dull (p := p) hh
  by_cases e : kindOf p = h
  · rw [if_neg (by simp [e]), if_neg (k.mp e)]
  · rw [if_pos (by simp [e]), if_pos (by simpa using mt k.mpr e)]
/-! ### each once -/
def dd (s : List (Int × Int)) (x : Int × Int) : List (Int × Int) := if memB x s = true then s else s ++ [x]
def Dd (ls : List (List (Int × Int))) (s : List (Int × Int)) : List (Int × Int) := ls.foldl (fun s l => l.foldl dd s) s
theorem dd_len (s : List (Int × Int)) (x : Int × Int) : (dd s x).length ≤ s.length + 1 := by unfold dd; split <;> simp
theorem ddl_len : ∀ (l s : List (Int × Int)), (l.foldl dd s).length ≤ s.length + l.length
  | [], s => by simp
  | x :: l, s => by
    rw [List.foldl_cons, List.length_cons]
    have := ddl_len l (dd s x)
    have := dd_len s x
    omega
theorem Dd_len : ∀ (ls : List (List (Int × Int))) (s : List (Int × Int)), (∀ l ∈ ls, l.length ≤ 256) → (Dd ls s).length ≤ s.length + ls.length * 256
  | [], s, _ => by simp [Dd]
  | l :: ls, s, h => by
    show (Dd ls (l.foldl dd s)).length ≤ _
    have := Dd_len ls (l.foldl dd s) fun x hx => h x (List.mem_cons_of_mem _ hx)
    have := ddl_len l s
    have := h l List.mem_cons_self
    rw [List.length_cons, Nat.succ_mul]
    omega
theorem union_in {f : (Int × Int) → List (Int × Int) → R Er (List (Int × Int))} (hf : ∀ x s, s.length < 16777216 → f x s = .ok (dd s x)) : ∀ (l s : List (Int × Int)), s.length + l.length ≤ 16777216 → forS f l s = .ok (l.foldl dd s)
  | [], s, _ => rfl
  | x :: l, s, h => by
    rw [List.length_cons] at h
    have := dd_len s x
    unfold forS
    rw [hf x s (by omega), R.bind_ok, union_in hf l (dd s x) (by omega)]
    rfl
theorem union_out {F : List (Int × Int) → List (Int × Int) → R Er (List (Int × Int))} (hF : ∀ l s, s.length + l.length ≤ 16777216 → F l s = .ok (l.foldl dd s)) : ∀ (ls : List (List (Int × Int))) (s : List (Int × Int)), (∀ l ∈ ls, l.length ≤ 256) → s.length + ls.length * 256 ≤ 16777216 → forS F ls s = .ok (Dd ls s)
  | [], s, _, _ => rfl
  | l :: ls, s, h, hN => by
    rw [List.length_cons, Nat.succ_mul] at hN
    have h1 := h l List.mem_cons_self
    have := ddl_len l s
    unfold forS
    rw [hF l s (by omega), R.bind_ok, union_out hF ls (l.foldl dd s) (fun x hx => h x (List.mem_cons_of_mem _ hx)) (by omega)]
    rfl
abbrev pyc : Int × Int → PyData := fun (a : (Int × Int)) => (PyData.tuple [(PyData.int a.1), (PyData.int a.2)])
theorem union_eq {says : List (List (Int × Int))} (h : ∀ l ∈ says, l.length ≤ 256) (hn : says.length ≤ 6) : m_union says = .ok (sortD pyc (Dd says [])) := by
  unfold m_union
  rw [R.bind_ok, union_out (fun l s hs => ?_) says [] h (by simp; omega), R.bind_ok]
  rw [union_in (fun x s hs => ?_) l s hs]
  · rfl
  · unfold dd
    cases e : memB x s with
    | true => rfl
    | false =>
      rw [if_pos (by rfl), (wp_app (P := (· = x)) hs rfl).eq]
      rfl
/-! ### the first index of each -/
def Good (says : List (List (Int × Int))) (e : (Int × Int) × Int) : Prop := 0 ≤ e.2 ∧ e.2 < says.length ∧ e.1 ∈ says.getD e.2.toNat []
theorem dhas_keys (d : List ((Int × Int) × Int)) (x : Int × Int) : dhas d x = memB x (dkeys d) := by
  unfold dkeys
  rw [← any_memB, List.any_map]
  rfl
theorem dput_new {d : List ((Int × Int) × Int)} {x : Int × Int} {i : Int} (h : dhas d x = false) : dput d x i = d ++ [(x, i)] := by
  unfold dput
  rw [if_neg (by rw [h]; exact Bool.false_ne_true)]
theorem firsts_in {f : (Int × Int) → List ((Int × Int) × Int) → R Er (List ((Int × Int) × Int))} {i : Int} (hf : ∀ x d, d.length < 16777216 → f x d = if memB x (dkeys d) = true then .ok d else .ok (d ++ [(x, i)])) {says : List (List (Int × Int))} : ∀ (l : List (Int × Int)) (d : List ((Int × Int) × Int)), (∀ x ∈ l, Good says (x, i)) → (∀ e ∈ d, Good says e) → d.length + l.length ≤ 16777216 → ∃ d', forS f l d = .ok d' ∧ dkeys d' = l.foldl dd (dkeys d) ∧ ∀ e ∈ d', Good says e
  | [], d, _, hd, _ => ⟨d, rfl, rfl, hd⟩
  | x :: l, d, hx, hd, h => by
    rw [List.length_cons] at h
    unfold forS
    rw [hf x d (by omega), List.foldl_cons]
    unfold dd
    by_cases e : memB x (dkeys d) = true
    · rw [if_pos e, if_pos e, R.bind_ok]
      exact firsts_in hf l d (fun y hy => hx y (List.mem_cons_of_mem _ hy)) hd (by omega)
    · rw [if_neg e, if_neg e, R.bind_ok]
      have := firsts_in hf (says := says) l (d ++ [(x, i)]) (fun y hy => hx y (List.mem_cons_of_mem _ hy)) (fun y hy => by
        rcases List.mem_append.mp hy with hy | hy
        · exact hd y hy
        · rw [List.mem_singleton.mp hy]; exact hx x List.mem_cons_self) (by simp; omega)
      unfold dkeys at this ⊢
      rw [List.map_append] at this
      exact this
theorem firsts_out {n : Nat} {says : List (List (Int × Int))} {F : Int → List ((Int × Int) × Int) → R Er (List ((Int × Int) × Int))} (hs : says.length = n) (hl : ∀ l ∈ says, l.length ≤ 256)
    (hF : ∀ (i : Int) (d : List ((Int × Int) × Int)) (l : List (Int × Int)), 0 ≤ i → i < n → says.getD i.toNat [] = l → (∀ e ∈ d, Good says e) → d.length + 256 ≤ 16777216 → ∃ d', F i d = .ok d' ∧ dkeys d' = l.foldl dd (dkeys d) ∧ ∀ e ∈ d', Good says e) :
    ∀ (k : Nat) (i : Int) (d : List ((Int × Int) × Int)), i + k = n → 0 ≤ i → (∀ e ∈ d, Good says e) → d.length + k * 256 ≤ 16777216 → ∃ d', forS F (rng i n) d = .ok d' ∧ dkeys d' = Dd (says.drop i.toNat) (dkeys d) ∧ ∀ e ∈ d', Good says e
  | 0, i, d, h, h0, hd, _ => ⟨d, by rw [rng_nil (by omega)]; rfl, by rw [List.drop_of_length_le (by omega)]; rfl, hd⟩
  | k + 1, i, d, h, h0, hd, hN => by
    rw [Nat.succ_mul] at hN
    have hi : i.toNat < says.length := by omega
    rw [rng_cons (by omega), List.drop_eq_getElem_cons hi]
    have el : says.getD i.toNat [] = says[i.toNat] := by rw [List.getD_eq_getElem?_getD, List.getElem?_eq_getElem hi]; rfl
    obtain ⟨d1, e1, k1, g1⟩ := hF i d _ h0 (by omega) rfl hd (by omega)
    unfold forS
    rw [e1, R.bind_ok]
    have hl1 := hl _ (List.getElem_mem hi)
    have len1 : d1.length ≤ d.length + 256 := by
      have := ddl_len (says.getD i.toNat []) (dkeys d)
      rw [← k1, el] at this
      unfold dkeys at this
      rw [List.length_map, List.length_map] at this
      omega
    obtain ⟨d2, e2, k2, g2⟩ := firsts_out hs hl hF k (i + 1) d1 (by omega) (by omega) g1 (by omega)
    refine ⟨d2, e2, ?_, g2⟩
    rw [k2, k1, el, show (i + 1).toNat = i.toNat + 1 by omega]
    rfl
theorem firsts_eq {b : Int × Int} {h : PySem.Str} {ps : List (List (Int × Int))} (hh : Hf h) (hp : ∀ p ∈ ps, Pt p) (hn : ps.length ≤ 6) : ∃ d, m_sayings_of_paths b h ps = .ok d ∧ dkeys d = Dd (ps.map (sayOf b h)) [] ∧ ∀ e ∈ d, Good (ps.map (sayOf b h)) e := by
  have key := firsts_out (n := ps.length) (says := ps.map (sayOf b h)) (F := fun (i_2 : Int) (s3 : (List ((Int × Int) × Int))) => ((((((rIx ps i_2)).bind fun v4 => R.ok (h, v4)).bind fun v5 => R.ok (b, v5)).bind fun v6 => (m_sayings_of_path v6.1 v6.2.1 v6.2.2)).bind fun v10 => forS (fun (saying_7 : (Int × Int)) (s8 : (List ((Int × Int) × Int))) => if (!dhas s8 saying_7) then (((rApp s8 (saying_7, i_2))).bind fun (c9 : ((Int × Int) × Int)) =>
    R.ok (dput s8 c9.1 c9.2)) else
    (R.ok s8)) v10 s3).bind fun (s11 : (List ((Int × Int) × Int))) =>
    R.ok s11) (by rw [List.length_map]) (fun l hl => by
      obtain ⟨p, hp1, rfl⟩ := List.mem_map.mp hl
      exact sayOf_len (hp p hp1)) (fun i d l h0 h1 hl hd hN => ?_) ps.length 0 [] (by omega) (by omega) (fun e he => by cases he) (by simp; omega)
  · obtain ⟨d, e, k, g⟩ := key
    refine ⟨d, ?_, by rw [k]; rfl, g⟩
    unfold m_sayings_of_paths
    rw [R.bind_ok, rRng_ok (by omega) (by omega) (by omega) (by omega), R.bind_ok, e]
    rfl
  · have hi : i.toNat < ps.length := by omega
    have hpt := hp _ (List.getElem_mem hi)
    rw [rIx_ok h0 h1]
    simp only [R.bind_ok]
    rw [own_eq hh hpt]
    simp only [R.bind_ok]
    have el : (ps.map (sayOf b h)).getD i.toNat [] = sayOf b h ps[i.toNat] := by
      rw [List.getD_eq_getElem?_getD, List.getElem?_map, List.getElem?_eq_getElem hi]; rfl
    rw [← hl, el]
    have hlen := sayOf_len (b := b) (h := h) hpt
    have hf : ∀ (x : Int × Int) (d : List ((Int × Int) × Int)), d.length < 16777216 → (if (!dhas d x) then (((rApp d (x, i))).bind fun (c9 : ((Int × Int) × Int)) => R.ok (dput d c9.1 c9.2)) else (R.ok d) : R Er _) = if memB x (dkeys d) = true then .ok d else .ok (d ++ [(x, i)]) := fun x d hN => by
      have hk := dhas_keys d x
      cases e : memB x (dkeys d) with
      | true => rw [hk, e] <;> rfl
      | false =>
        rw [hk, e, if_pos (by rfl), (wp_app (P := (· = (x, i))) hN rfl).eq, R.bind_ok, dput_new (by rw [hk, e])]
        simp
    obtain ⟨d', e1, e2, e3⟩ := firsts_in (i := i) (says := ps.map (sayOf b h)) hf (sayOf b h ps[i.toNat]) d (fun x hx => ⟨h0, by rw [List.length_map]; exact h1, by show x ∈ (ps.map (sayOf b h)).getD i.toNat []; rw [el]; exact hx⟩) hd (by omega)
    exact ⟨d', by rw [e1]; rfl, e2, e3⟩
theorem said_eq {b : Int × Int} {h : PySem.Str} {ps : List (List (Int × Int))} (hh : Hf h) (hp : ∀ p ∈ ps, Pt p) (hn : ps.length ≤ 6) : m_said b h ps = .ok (sortD pyc (Dd (ps.map (sayOf b h)) [])) := by
  obtain ⟨d, e1, e2, _⟩ := firsts_eq (b := b) hh hp hn
  unfold m_said
  rw [e1]
  simp only [R.bind_ok]
  rw [e2]
theorem says_len {b : Int × Int} {h : PySem.Str} {ps : List (List (Int × Int))} (hp : ∀ p ∈ ps, Pt p) : ∀ l ∈ ps.map (sayOf b h), l.length ≤ 256 := fun l hl => by
  obtain ⟨p, h1, rfl⟩ := List.mem_map.mp hl
  exact sayOf_len (hp p h1)
theorem said_len {b : Int × Int} {h : PySem.Str} {ps : List (List (Int × Int))} (hp : ∀ p ∈ ps, Pt p) (hn : ps.length ≤ 6) : (sortD pyc (Dd (ps.map (sayOf b h)) [])).length ≤ 1536 := by
  unfold sortD
  rw [List.length_mergeSort]
  have := Dd_len (ps.map (sayOf b h)) [] (says_len hp)
  rw [List.length_map] at this
  simp at this
  omega
theorem corner_ok (c : Int × Int) : m_is_corner c = .ok true := rfl
theorem row_same {l : List (Int × Int)} (hl : l.length ≤ 1536) : m_is_row l l = .ok true := by
  refine wp.eq ?_
  unfold m_is_row
  simp only [Bool.not_true, decide_true, Bool.or_self, Bool.false_eq_true, if_false]
  rw [wp_seqX, wp_bind]
  refine wp_rng (by omega) (by omega) (by omega) (by omega) (wp_forX (fun _ => True) trivial (fun k hk _ _ => ?_) fun _ _ => wp_ok.mpr rfl)
  rw [rng_mem] at hk
  rw [pg_ix hk.1 hk.2]
  simp only [bo, corner_ok, Bool.not_true, Bool.false_eq_true, if_false, decide_true]
  exact wp_ok.mpr trivial
/-! ### rings -/
def ringOk (says : List (List (Int × Int))) (i j s t : Int) : Bool := decide (0 ≤ i ∧ i < says.length) && (decide (0 ≤ j ∧ j < says.length) && (memB (s, t) (says.getD i.toNat []) && memB (t, s) (says.getD j.toNat [])))
theorem getD_ix {says : List (List (Int × Int))} {i : Int} (h0 : 0 ≤ i) (h1 : i < says.length) : (rIx says i : R Er _) = .ok (says.getD i.toNat []) := by
  rw [rIx_ok h0 h1, List.getD_eq_getElem?_getD, List.getElem?_eq_getElem (by omega)]; rfl
theorem chain_eq (i : Int) (n : Nat) : ((if decide ((0 : Int) ≤ i) then (R.ok (decide (i < (n : Int)))) else R.ok false) : R Er Bool) = .ok (decide (0 ≤ i ∧ i < n)) := by
  by_cases h : 0 ≤ i
  · rw [if_pos (decide_eq_true h)]; simp [h]
  · rw [if_neg (by simpa using h)]; simp [h]
theorem law_ring {says : List (List (Int × Int))} (i j s t : Int) : m_is_ring [i, j, s, t] says = .ok (ringOk says i j s t) := by
  unfold m_is_ring
  rw [if_neg (by simp)]
  have e0 : forX (fun (number_1 : Int) (s2 : Unit) => (((m_is_integer number_1)).bind fun v3 => R.ok (!v3)).bind fun v4 => if v4 then (R.ok (.inr false)) else (R.ok (.inl ()))) [i, j, s, t] () = (.ok (.inl ()) : R Er (Unit ⊕ Bool)) := rfl
  rw [e0]
  have x0 : (rIx [i, j, s, t] 0 : R Er Int) = .ok i := rfl
  have x1 : (rIx [i, j, s, t] 1 : R Er Int) = .ok j := rfl
  have x2 : (rIx [i, j, s, t] 2 : R Er Int) = .ok s := rfl
  have x3 : (rIx [i, j, s, t] 3 : R Er Int) = .ok t := rfl
  unfold R.seqX
  simp only [R.bind_ok, x0, x1, x2, x3, chain_eq]
  unfold ringOk
  by_cases h1 : 0 ≤ i ∧ i < says.length
  · rw [decide_eq_true h1]
    simp only [Bool.not_true, Bool.false_eq_true, if_false, R.bind_ok]
    by_cases h2 : 0 ≤ j ∧ j < says.length
    · rw [decide_eq_true h2, if_neg (by simp), getD_ix h1.1 h1.2, getD_ix h2.1 h2.2]
      simp only [R.bind_ok]
      cases memB (s, t) (says.getD i.toNat []) <;> rfl
    · rw [decide_eq_false h2, if_pos (by simp)]; rfl
  · rw [decide_eq_false h1]; rfl
theorem own_ring_core {b : Int × Int} {h : PySem.Str} {ps : List (List (Int × Int))} (hh : Hf h) (hp : ∀ p ∈ ps, Pt p) (t1 : Int × Int × Int × Int) : (((((if decide ((0 : Int) ≤ t1.1) then (R.ok (decide (t1.1 < (List.length ps : Int)))) else R.ok false)).bind fun v6 => R.ok (!v6)).bind fun v8 => (if v8 then R.ok true else ((if decide ((0 : Int) ≤ t1.2.1) then (R.ok (decide (t1.2.1 < (List.length ps : Int)))) else R.ok false)).bind fun v7 => R.ok (!v7))).bind fun v19 => if v19 then (R.ok false) else
  (((((((rIx ps t1.1)).bind fun v9 => R.ok (h, v9)).bind fun v10 => R.ok (b, v10)).bind fun v11 => (m_sayings_of_path v11.1 v11.2.1 v11.2.2)).bind fun v12 => R.ok (!memB (t1.2.2.1, t1.2.2.2) v12)).bind fun v18 => if v18 then (R.ok false) else
  (((((((rIx ps t1.2.1)).bind fun v13 => R.ok (h, v13)).bind fun v14 => R.ok (b, v14)).bind fun v15 => (m_sayings_of_path v15.1 v15.2.1 v15.2.2)).bind fun v16 => R.ok (memB (t1.2.2.2, t1.2.2.1) v16)).bind fun v17 => R.ok v17)) : R Er Bool) = .ok (ringOk (ps.map (sayOf b h)) t1.1 t1.2.1 t1.2.2.1 t1.2.2.2) := by
  obtain ⟨i, j, s, t⟩ := t1
  have getp : ∀ k : Int, 0 ≤ k → k < ps.length → ∃ p, (rIx ps k : R Er _) = .ok p ∧ Pt p ∧ (ps.map (sayOf b h)).getD k.toNat [] = sayOf b h p := fun k h0 h1 => by
    have hk : k.toNat < ps.length := by omega
    exact ⟨ps[k.toNat], rIx_ok h0 h1, hp _ (List.getElem_mem hk), by rw [List.getD_eq_getElem?_getD, List.getElem?_map, List.getElem?_eq_getElem hk]; rfl⟩
  simp only [R.bind_ok, chain_eq]
  unfold ringOk
  rw [List.length_map]
  by_cases h1 : 0 ≤ i ∧ i < ps.length
  · rw [decide_eq_true h1]
    simp only [Bool.not_true, Bool.false_eq_true, if_false, R.bind_ok]
    by_cases h2 : 0 ≤ j ∧ j < ps.length
    · rw [decide_eq_true h2, if_neg (by simp)]
      obtain ⟨p, e1, q1, g1⟩ := getp i h1.1 h1.2
      obtain ⟨r, e2, q2, g2⟩ := getp j h2.1 h2.2
      rw [e1, e2, g1, g2]
      simp only [R.bind_ok]
      rw [own_eq hh q1, own_eq hh q2]
      simp only [R.bind_ok]
      cases memB (s, t) (sayOf b h p) <;> rfl
    · rw [decide_eq_false h2, if_pos (by simp)]; rfl
  · rw [decide_eq_false h1]; rfl
theorem own_ring {b : Int × Int} {h : PySem.Str} {ps : List (List (Int × Int))} (hh : Hf h) (hp : ∀ p ∈ ps, Pt p) (i j s t : Int) : m_is_ring_own b h ps [i, j, s, t] = .ok (ringOk (ps.map (sayOf b h)) i j s t) := by
  unfold m_is_ring_own
  exact own_ring_core hh hp (i, j, s, t)
theorem own_ring2 {b : Int × Int} {h : PySem.Str} {ps : List (List (Int × Int))} (hh : Hf h) (hp : ∀ p ∈ ps, Pt p) (i j s t : Int) : m_is_ring_own_2 b h ps (some (i, j, s, t)) = .ok (ringOk (ps.map (sayOf b h)) i j s t) := by
  unfold m_is_ring_own_2
  exact own_ring_core hh hp (i, j, s, t)
theorem law_ring2 {says : List (List (Int × Int))} (i j s t : Int) : m_is_ring_2 (some (i, j, s, t)) says = .ok (ringOk says i j s t) := by
  unfold m_is_ring_2
  have u : (unO (some (i, j, s, t)) : R Er _) = .ok (i, j, s, t) := rfl
  have b : optB false (fun _ => true) (some (i, j, s, t)) = true := rfl
  have e0 : forX (fun (number_1 : Int) (s2 : Unit) => (((m_is_integer number_1)).bind fun v3 => R.ok (!v3)).bind fun v4 => if v4 then (R.ok (.inr false)) else (R.ok (.inl ()))) [i, j, s, t] () = (.ok (.inl ()) : R Er (Unit ⊕ Bool)) := rfl
  simp only [u, b, bo, Bool.not_true, Bool.false_eq_true, if_false, decide_true]
  unfold R.seqX
  rw [if_neg (by decide), e0]
  simp only [bo, chain_eq]
  unfold ringOk
  by_cases h1 : 0 ≤ i ∧ i < says.length
  · rw [decide_eq_true h1]
    simp only [Bool.not_true, Bool.false_eq_true, if_false, R.bind_ok]
    by_cases h2 : 0 ≤ j ∧ j < says.length
    · rw [decide_eq_true h2, if_neg (by simp), getD_ix h1.1 h1.2, getD_ix h2.1 h2.2]
      simp only [R.bind_ok]
      cases memB (s, t) (says.getD i.toNat []) <;> rfl
    · rw [decide_eq_false h2, if_pos (by simp)]; rfl
  · rw [decide_eq_false h1]; rfl
/-- there is a ring -/
def Ex (says : List (List (Int × Int))) : Prop := ∃ i j : Int, ∃ p : Int × Int, (0 ≤ i ∧ i < says.length) ∧ (0 ≤ j ∧ j < says.length) ∧ p ∈ says.getD i.toNat [] ∧ (p.2, p.1) ∈ says.getD j.toNat []
def gP (says : List (List (Int × Int))) (i j : Int) (p : Int × Int) : List (Int × Int × Int × Int) := if memB (p.2, p.1) (says.getD j.toNat []) = true then [(i, j, p.1, p.2)] else []
def gJ (says : List (List (Int × Int))) (i j : Int) : List (Int × Int × Int × Int) := (says.getD i.toNat []).flatMap (gP says i j)
def gI (says : List (List (Int × Int))) (i : Int) : List (Int × Int × Int × Int) := (rng 0 says.length).flatMap (gJ says i)
def ringsOf (says : List (List (Int × Int))) : List (Int × Int × Int × Int) := (rng 0 says.length).flatMap (gI says)
theorem ne_nil_mem {α : Type} {l : List α} : l ≠ [] ↔ ∃ x, x ∈ l := ⟨List.exists_mem_of_ne_nil l, fun ⟨x, h⟩ e => by rw [e] at h; cases h⟩
theorem rings_ex (says : List (List (Int × Int))) : ringsOf says ≠ [] ↔ Ex says := by
  rw [ne_nil_mem]
  unfold ringsOf gI gJ gP
  simp only [List.mem_flatMap, rng_mem]
  constructor
  · rintro ⟨x, i, hi, j, hj, p, hp, hx⟩
    cases e : memB (p.2, p.1) (says.getD j.toNat []) with
    | false => rw [e] at hx; simp at hx
    | true => exact ⟨i, j, p, hi, hj, hp, memB_iff.mp e⟩
  · rintro ⟨i, j, p, hi, hj, hp, hq⟩
    exact ⟨(i, j, p.1, p.2), i, hi, j, hj, p, hp, by rw [memB_of hq]; simp⟩
theorem gP_len (says : List (List (Int × Int))) (i j : Int) (p : Int × Int) : (gP says i j p).length ≤ 1 := by unfold gP; split <;> simp
theorem gJ_len {says : List (List (Int × Int))} (hl : ∀ l ∈ says, l.length ≤ 256) {i : Int} (j : Int) (h0 : 0 ≤ i) (h1 : i < says.length) : (gJ says i j).length ≤ 256 := by
  have := flat_len (l := says.getD i.toNat []) (g := gP says i j) (c := 1) fun x _ => gP_len says i j x
  have h : (says.getD i.toNat []).length ≤ 256 := by
    rw [List.getD_eq_getElem?_getD, List.getElem?_eq_getElem (by omega)]
    exact hl _ (List.getElem_mem _)
  unfold gJ
  omega
theorem gI_len {says : List (List (Int × Int))} (hl : ∀ l ∈ says, l.length ≤ 256) (hn : says.length ≤ 6) {i : Int} (h0 : 0 ≤ i) (h1 : i < says.length) : (gI says i).length ≤ 1536 := by
  have := flat_len (l := rng 0 says.length) (g := gJ says i) (c := 256) fun j _ => gJ_len hl j h0 h1
  rw [rng_len] at this
  unfold gI
  omega
theorem rings_len {says : List (List (Int × Int))} (hl : ∀ l ∈ says, l.length ≤ 256) (hn : says.length ≤ 6) : (ringsOf says).length ≤ 9216 := by
  have := flat_len (l := rng 0 says.length) (g := gI says) (c := 1536) fun i hi => by
    rw [rng_mem] at hi
    exact gI_len hl hn hi.1 hi.2
  rw [rng_len] at this
  unfold ringsOf
  omega
theorem rings_p {says : List (List (Int × Int))} {i j : Int} (hj : 0 ≤ j ∧ j < says.length) (p : Int × Int) (s : List (Int × Int × Int × Int)) (hs : s.length + (gP says i j p).length ≤ 16777216) : (((rIx says j)).bind fun v8 => R.ok (memB (p.2, p.1) v8)).bind (fun v11 => if v11 then (((rApp s (i, j, p.1, p.2))).bind fun (c10 : (Int × Int × Int × Int)) => R.ok (s ++ [c10])) else (R.ok s)) = (.ok (s ++ gP says i j p) : R Er _) := by
  rw [getD_ix hj.1 hj.2]
  simp only [R.bind_ok]
  unfold gP at hs ⊢
  cases e : memB (p.2, p.1) (says.getD j.toNat []) with
  | true =>
    rw [e, if_pos rfl] at hs
    rw [show [(i, j, p.1, p.2)].length = 1 from rfl] at hs
    rw [if_pos rfl, if_pos rfl, (wp_app (P := (· = (i, j, p.1, p.2))) (by omega) rfl).eq]
    rfl
  | false => simp
theorem rings_eq {says : List (List (Int × Int))} (hl : ∀ l ∈ says, l.length ≤ 256) (hn : says.length ≤ 6) : m_rings says = .ok (ringsOf says) := by
  have r1 := rings_len hl hn
  unfold m_rings
  rw [R.bind_ok, rRng_ok (by omega) (by omega) (by omega) (by omega), R.bind_ok]
  rw [forS_app (N := 16777216) (g := gI says) (fun i hi s hs => ?_) (by unfold ringsOf at r1; simp only [List.length_nil]; omega)]
  · rfl
  rw [rng_mem] at hi
  rw [R.bind_ok, forS_app (N := 16777216) (g := gJ says i) (fun j hj s hs => ?_) hs]
  · rfl
  rw [rng_mem] at hj
  rw [getD_ix hi.1 hi.2, R.bind_ok, forS_app (N := 16777216) (g := gP says i j) (fun p _ s hs => rings_p hj p s hs) hs]
  rfl
/-! ### the program's search -/
theorem dget_some {d : List ((Int × Int) × Int)} {x : Int × Int} (h : x ∈ dkeys d) : ∃ v, dget d x = some v ∧ (x, v) ∈ d := by
  unfold dget
  cases e : d.find? fun y => decide (y.1 = x) with
  | none =>
    unfold dkeys at h
    obtain ⟨y, hy, rfl⟩ := List.mem_map.mp h
    have := List.find?_eq_none.mp e y hy
    simp at this
  | some y =>
    have h1 := List.mem_of_find?_eq_some e
    have h2 := List.find?_some e
    simp only [decide_eq_true_eq] at h2
    exact ⟨y.2, rfl, by rw [← h2]; exact h1⟩
theorem dd_mem {s : List (Int × Int)} {x y : Int × Int} : y ∈ dd s x ↔ y ∈ s ∨ y = x := by
  unfold dd
  by_cases e : memB x s = true
  · rw [if_pos e]
    have := memB_iff.mp e
    constructor
    · exact .inl
    · rintro (h | rfl)
      · exact h
      · exact this
  · rw [if_neg e]; simp
theorem ddl_mem : ∀ {l s : List (Int × Int)} {y : Int × Int}, y ∈ l.foldl dd s ↔ y ∈ s ∨ y ∈ l
  | [], s, y => by simp
  | x :: l, s, y => by rw [List.foldl_cons, ddl_mem, dd_mem, List.mem_cons, or_assoc]
theorem Dd_mem : ∀ {ls : List (List (Int × Int))} {s : List (Int × Int)} {y : Int × Int}, y ∈ Dd ls s ↔ y ∈ s ∨ ∃ l ∈ ls, y ∈ l
  | [], s, y => by simp [Dd]
  | l :: ls, s, y => by
    show y ∈ Dd ls (l.foldl dd s) ↔ _
    rw [Dd_mem, ddl_mem]
    simp [or_assoc]
theorem find_ring_wp {b : Int × Int} {h : PySem.Str} {ps : List (List (Int × Int))} {P : Option (Int × Int × Int × Int) → Prop} (hh : Hf h) (hp : ∀ p ∈ ps, Pt p) (hn : ps.length ≤ 6)
    (h0 : ¬ Ex (ps.map (sayOf b h)) → P none) (h1 : ∀ i j s t, ringOk (ps.map (sayOf b h)) i j s t = true → P (some (i, j, s, t))) : wp (m_find_ring b h ps) P := by
  obtain ⟨d, e1, e2, hg⟩ := firsts_eq (b := b) hh hp hn
  unfold m_find_ring
  rw [e1, R.bind_ok, wp_seqX]
  refine wp_forXn (fun i _ => ∀ x ∈ (dkeys d).take i, ((x.2, x.1) : Int × Int) ∉ dkeys d) (fun x hx => by simp at hx) (fun i x hx _ hI => ?_) (fun _ hI => wp_ok.mpr (h0 ?_))
  · have hk := dhas_keys d (x.2, x.1)
    have hxm := List.mem_of_getElem? hx
    by_cases hm : ((x.2, x.1) : Int × Int) ∈ dkeys d
    · rw [memB_of hm] at hk
      rw [if_pos hk]
      obtain ⟨v, v1, v2⟩ := dget_some (x := (x.1, x.2)) hxm
      obtain ⟨w, w1, w2⟩ := dget_some hm
      unfold rGet
      rw [v1, w1]
      have u : ∀ z : Int, (unO (some z) : R Er Int) = .ok z := fun _ => rfl
      simp only [u, bo]
      refine wp_ok.mpr (h1 v w x.1 x.2 ?_)
      have g1 := hg _ v2
      have g2 := hg _ w2
      unfold ringOk
      rw [decide_eq_true ⟨g1.1, g1.2.1⟩, decide_eq_true ⟨g2.1, g2.2.1⟩, memB_of g1.2.2, memB_of g2.2.2]
      rfl
    · rw [memB_no hm] at hk
      rw [if_neg (by rw [hk]; exact Bool.false_ne_true)]
      refine wp_ok.mpr fun y hy => ?_
      rw [List.take_add_one, hx] at hy
      rcases List.mem_append.mp hy with hy | hy
      · exact hI y hy
      · simp at hy; subst hy; exact hm
  · rintro ⟨i, j, p, hi, hj, hp1, hp2⟩
    rw [List.take_of_length_le (Nat.le_refl _)] at hI
    have mem : ∀ (k : Int) (q : Int × Int), 0 ≤ k ∧ k < (ps.map (sayOf b h)).length → q ∈ (ps.map (sayOf b h)).getD k.toNat [] → q ∈ dkeys d := fun k q hk hq => by
      rw [e2, Dd_mem]
      have hk2 : k.toNat < (ps.map (sayOf b h)).length := by omega
      rw [List.getD_eq_getElem?_getD, List.getElem?_eq_getElem hk2] at hq
      exact .inr ⟨_, List.getElem_mem hk2, hq⟩
    exact hI p (mem i p hi hp1) (mem j _ hj hp2)
/-! ### certificates: all of four numbers -/
theorem four {l : List Int} (h : l.length = 4) : ∃ i j s t, l = [i, j, s, t] := by
  match l, h with
  | [i, j, s, t], _ => exact ⟨i, j, s, t, rfl⟩
theorem certs_wp {c : Int} {rs : List (Int × Int × Int × Int)} {n z : Int} {P : List (List Int) → Prop} (hr : rs.length ≤ 9216) (hn0 : 0 ≤ n) (hn : n ≤ 6) (hz0 : 0 ≤ z) (hz : z ≤ 16) (h : ∀ r : List (List Int), (∀ l ∈ r, l.length = 4) → P r) : wp (m_certificates c rs n z) P := by
  unfold m_certificates
  simp only [wp_bind, wp_ok]
  refine draws_wp (by simp; omega) (by simp) fun d hl hd => ?_
  refine dix hl hd (y := n + 5) (by omega) rfl fun d2 _ _ => dix hl hd (y := n + 5) (by omega) rfl fun d3 _ _ => dix hl hd (y := z + 5) (by omega) rfl fun d4 _ _ => dix hl hd (y := z + 5) (by omega) rfl fun d5 _ _ => ?_
  refine wp_ite.mpr ⟨fun hc => ?_, fun _ => wp_ok.mpr (h _ fun l hl => by rw [List.mem_singleton.mp hl]; rfl)⟩
  simp only [decide_eq_true_eq] at hc
  simp only [wp_bind, wp_ok]
  refine dix hl hd (y := 2003) (by omega) rfl fun d0 _ _ => wp_mod (by omega) ?_
  have h1 := Int.emod_nonneg d0 (show (rs.length : Int) ≠ 0 by omega)
  have h2 := Int.emod_lt_of_pos d0 hc
  refine wp_ix h1 h2 fun _ => ?_
  refine wp_cat (by simp) (wp_cat (by simp) ?_)
  refine dix hl hd (y := 4) (by omega) rfl fun d1 a1 a2 => wp_ix (by omega) (by simp; omega) fun _ => dix hl hd (y := 4) (by omega) rfl fun d1' b1 b2 => wp_set (by omega) (by simp; omega) (wp_app (by simp) ?_)
  refine h _ fun l hl => ?_
  simp only [List.mem_append, List.mem_cons, List.mem_singleton, List.not_mem_nil, or_false] at hl
  rcases hl with ((rfl | rfl | rfl | rfl | rfl) | rfl | rfl | rfl | rfl) | rfl <;> first | rfl | (rw [List.length_set]; rfl)
/-! ### the drawn paths -/
theorem turned_wp {p : List (Int × Int)} {P : List (Int × Int) → Prop} (hp : Pt p) (h : ∀ p, Pt p → P p) : wp (m_turned p) P := by
  unfold m_turned
  rw [first_ix hp, last_ix hp]
  simp only [R.bind_ok, wp_bind, wp_ok]
  refine wp_map (fun _ _ => True) (by have := hp.2; simp; omega) (fun x _ => wp_ok.mpr trivial) fun r hr _ => h r ?_
  rw [List.length_reverse] at hr
  have := hp.2
  have := List.length_pos_iff.mpr hp.1
  exact ⟨List.length_pos_iff.mp (by omega), by omega⟩
theorem long_wp {b : Int × Int} {h : PySem.Str} {c : Int} {P : List (Int × Int) → Prop} (hP : ∀ p, Pt p → P p) : wp (m_long_path b h c) P := by
  unfold m_long_path
  simp only [wp_bind, wp_ok]
  refine wp.mono (P := fun s : PySem.Str × List (Int × Int) => s.2.length = 1) (wp_ite.mpr ⟨fun _ => wp_ok.mpr rfl, fun _ => wp_ok.mpr rfl⟩) fun st hst => ?_
  refine wp_rep (by omega) (by simp) ?_
  rw [show (16 : Int).toNat = 16 from rfl, rep1]
  refine draws_wp (by simp) (by simp) fun d hl hd => ?_
  refine wp_forSn (fun i s => s ≠ [] ∧ s.length ≤ i + 1) ⟨List.length_pos_iff.mp (by omega), by omega⟩ (fun i k hk s ⟨s1, s2⟩ => ?_) (fun s ⟨s1, s2⟩ => ?_)
  · have hlt := (List.getElem?_eq_some_iff.mp hk).1
    rw [hl, List.length_replicate] at hlt
    have hr := hd i k 2 hk (by rw [List.getElem?_replicate, if_pos hlt])
    simp only [wp_bind, wp_ok]
    refine wp_last s1 (wp_ix hr.1 (by simp; omega) fun _ => moved_wp fun x => onb_wp fun y => wp_ite.mpr ⟨fun _ => ?_, fun _ => wp_ok.mpr ⟨s1, by omega⟩⟩)
    simp only [wp_bind, wp_ok]
    exact wp_app (by omega) ⟨by simp, by simp; omega⟩
  · rw [hl, List.length_replicate] at s2
    have := turn_wp (P := P) (r := s) ⟨s1, by omega⟩ hP
    simp only [wp_bind, wp_ok] at this
    exact this
theorem drawn_wp {b : Int × Int} {h : PySem.Str} {c : Int} {ps : List (List (Int × Int))} {P : List (Int × Int) → Prop} (h1 : 0 ≤ b.1) (h2 : b.1 ≤ 8) (h3 : 0 ≤ b.2) (h4 : b.2 ≤ 8) (hp : ∀ p ∈ ps, Pt p) (hP : ∀ p, Pt p → P p) : wp (m_drawn_path b h c ps) P := by
  unfold m_drawn_path
  simp only [wp_bind, wp_ok]
  refine draws_wp (by simp) (by simp) fun d hl hd => ?_
  refine dix hl hd (y := 8) (by omega) rfl fun d0 _ _ => ?_
  have rest : wp ((((((rDiv c (8 : Int))).bind fun v11 => R.ok (b, v11)).bind fun v12 => (m_path v12.1 v12.2)).bind fun (path_here_10 : (List (Int × Int))) =>
      ((((rIx d (0 : Int))).bind fun v13 => R.ok (decide ((4 : Int) < v13))).bind fun v19 => if v19 then ((((((rDiv c (8 : Int))).bind fun v16 => R.ok (h, v16)).bind fun v17 => R.ok (b, v17)).bind fun v18 => (m_long_path v18.1 v18.2.1 v18.2.2)).bind fun (path_here_15 : (List (Int × Int))) =>
      R.ok path_here_15) else
      (R.ok path_here_10)).bind fun (s14 : (List (Int × Int))) =>
      ((((rIx d (0 : Int))).bind fun v20 => R.ok (decide (v20 = (3 : Int)))).bind fun v22 => (if v22 then R.ok true else ((rIx d (0 : Int))).bind fun v21 => R.ok (decide (v21 = (5 : Int))))).bind fun v30 => if v30 then (R.ok s14) else
      (((((((rIx d (1 : Int))).bind fun v23 => (rMod v23 (List.length s14 : Int))).bind fun v25 => (((rIx d (2 : Int))).bind fun v24 => (rMod v24 (List.length s14 : Int))).bind fun v26 => R.ok (v25, v26)).bind fun v27 => R.ok (s14, v27)).bind fun v28 => (m_part v28.1 v28.2.1 v28.2.2)).bind fun v29 => R.ok v29)) : R Er _) P := by
    simp only [wp_bind, wp_ok]
    refine wp_div (by omega) (path_wp h1 h2 h3 h4 fun p hp => dix hl hd (y := 8) (by omega) rfl fun _ _ _ => ?_)
    refine wp.mono (P := Pt) (wp_ite.mpr ⟨fun _ => ?_, fun _ => wp_ok.mpr hp⟩) fun q hq => ?_
    · simp only [wp_bind, wp_ok]
      exact wp_div (by omega) (long_wp fun _ h => h)
    refine dix hl hd (y := 8) (by omega) rfl fun _ _ _ => ?_
    refine wp.mono (P := fun _ => True) (wp_ite.mpr ⟨fun _ => wp_ok.mpr trivial, fun _ => ?_⟩) fun t _ => ?_
    · simp only [wp_bind, wp_ok]
      exact dix hl hd (y := 8) (by omega) rfl fun _ _ _ => trivial
    refine wp_ite.mpr ⟨fun _ => wp_ok.mpr (hP _ hq), fun _ => ?_⟩
    simp only [wp_bind, wp_ok]
    have hq1 := List.length_pos_iff.mpr hq.1
    refine dix hl hd (y := 17) (by omega) rfl fun i _ _ => wp_mod (by omega) (dix hl hd (y := 17) (by omega) rfl fun j _ _ => wp_mod (by omega) ?_)
    exact part_wp hq (Int.emod_nonneg _ (by omega)) (Int.emod_lt_of_pos _ (by omega)) (Int.emod_nonneg _ (by omega)) (Int.emod_lt_of_pos _ (by omega)) hP
  refine wp.mono (P := fun t => t = true → 0 < (ps.length : Int)) (wp_ite.mpr ⟨fun _ => wp_ok.mpr fun e => by simpa using e, fun _ => wp_ok.mpr fun e => by cases e⟩) fun t ht => ?_
  refine wp_ite.mpr ⟨fun hc => ?_, fun _ => rest⟩
  have hpos := ht hc
  simp only [wp_bind, wp_ok]
  refine dix hl hd (y := 17) (by omega) rfl fun i _ _ => wp_mod hpos (wp_ix (Int.emod_nonneg _ (by omega)) (Int.emod_lt_of_pos _ hpos) fun hi => dix hl hd (y := 8) (by omega) rfl fun _ _ _ => ?_)
  have hpt := hp _ (List.getElem_mem hi)
  refine wp_ite.mpr ⟨fun _ => wp_ok.mpr (hP _ hpt), fun _ => ?_⟩
  simp only [wp_bind, wp_ok]
  exact turned_wp hpt hP
theorem half_ix {x : Int} {P : PySem.Str → Prop} (h0 : 0 ≤ x) (h1 : x < 2) (h : ∀ s, Hf s → P s) : wp (rIx ([("rising" : PySem.Str), ("falling" : PySem.Str)] : List PySem.Str) x : R Er _) P := by
  have : x = 0 ∨ x = 1 := by omega
  rcases this with rfl | rfl
  · exact ⟨_, rfl, h _ (.inl rfl)⟩
  · exact ⟨_, rfl, h _ (.inr rfl)⟩
theorem law_math : ∀ ns : List Int, ns.length ≤ 63 → m_law ns = .ok true := by
  intro ns _
  refine wp.eq ?_
  unfold m_law
  simp only [wp_bind, wp_ok]
  refine cell_wp (by omega) fun c0 => board_wp fun b h1 h2 h3 h4 => cell_wp (by omega) fun c1 => draws_wp (by simp) (by simp) fun d hl hd => dix hl hd (y := 2) (by omega) rfl fun x x0 x1 => half_ix x0 x1 fun h hh => ?_
  refine dix hl hd (y := 7) (by omega) rfl fun n n0 n1 => wp_rng (by omega) (by omega) (by omega) (by omega) ?_
  refine wp_forSn (fun i s => s.length = i ∧ ∀ p ∈ s, Pt p) ⟨rfl, by simp⟩ (fun i k hk s ⟨s1, s2⟩ => ?_) (fun ps ⟨s1, s2⟩ => ?_)
  · obtain ⟨rfl, hi⟩ := rng_get hk
    simp only [wp_bind, wp_ok]
    refine cell_wp (by omega) fun _ => wp_mul (.inl (by omega)) (drawn_wp h1 h2 h3 h4 s2 fun p hp => wp_app (by omega) ?_)
    refine ⟨by simp [s1], fun q hq => ?_⟩
    rcases List.mem_append.mp hq with hq | hq
    · exact s2 q hq
    · rw [List.mem_singleton.mp hq]; exact hp
  have hn : ps.length ≤ 6 := by rw [s1, rng_len]; omega
  refine wp_lc (fun _ => true) (sayOf b h) (by omega) (fun _ _ => rfl) (fun p hp _ => sayings_eq hh (s2 p hp)) ?_
  rw [List.filter_eq_self.mpr fun _ _ => rfl]
  have sl := says_len (b := b) (h := h) s2
  have sn : (ps.map (sayOf b h)).length ≤ 6 := by rw [List.length_map]; exact hn
  refine ⟨_, rings_eq sl sn, ?_⟩
  refine dix hl hd (y := 2) (by omega) rfl fun _ _ _ => ?_
  refine wp.mono (P := (· = ps)) (wp_ite.mpr ⟨fun _ => wp_ok.mpr rfl, fun _ => wp_ok.mpr rfl⟩) fun q hq => ?_
  subst hq
  have lens := said_len (b := b) (h := h) s2 hn
  have rs := row_same lens
  have ue := union_eq sl sn
  have se := said_eq (b := b) hh s2 hn
  generalize sortD pyc (Dd (q.map (sayOf b h)) []) = A at lens rs ue se
  refine ⟨_, ue, _, se, ?_⟩
  show wp (m_is_row A A) _
  rw [rs]
  refine wp_ok.mpr ?_
  simp only [Bool.not_true, Bool.false_eq_true, if_false]
  rw [wp_bind]
  refine wp_app (by omega) ?_
  rw [se]
  simp only [bo, rs, Bool.not_true, Bool.false_eq_true, if_false]
  rw [wp_seqX]
  simp only [wp_bind, wp_ok]
  refine cell_wp (by omega) fun _ => certs_wp (rings_len sl sn) (by omega) (by omega) (by omega) (by omega) fun r hr => ?_
  refine wp_forX (fun _ => True) trivial (fun l hl _ _ => ?_) fun _ _ => ?_
  · obtain ⟨i, j, s, t, rfl⟩ := four (hr l hl)
    rw [own_ring hh s2, law_ring]
    simp only [bo, decide_true, Bool.not_true, Bool.false_eq_true, if_false]
    exact wp_ok.mpr trivial
  · refine find_ring_wp hh s2 hn (fun hx => ?_) (fun i j s t ho => ?_)
    · have e : ringsOf (q.map (sayOf b h)) = [] := Classical.byContradiction fun z => hx ((rings_ex _).mp z)
      rw [e]
      exact wp_ok.mpr (by simp)
    · have ho2 := ho
      unfold ringOk at ho2
      simp only [Bool.and_eq_true, decide_eq_true_eq, memB_iff] at ho2
      have hx : Ex (q.map (sayOf b h)) := ⟨i, j, (s, t), ho2.1, ho2.2.1, ho2.2.2.1, ho2.2.2.2⟩
      have hpos := List.length_pos_iff.mpr ((rings_ex _).mpr hx)
      rw [if_neg (by simp only [decide_eq_true_eq]; omega), law_ring2, own_ring2 hh s2, ho]
      simp only [bo, Bool.not_true, Bool.false_eq_true, if_false]
      exact wp_ok.mpr (by simp)
/-! ### the head -/
def d_cell : He.DefD := ⟨("_law_cell", none), "_law_cell", "_law_cell", defArgs s_cell, defBody s_cell, defScope s_cell, [], []⟩
def d_draws : He.DefD := ⟨("_law_draws", none), "_law_draws", "_law_draws", defArgs s_draws, defBody s_draws, defScope s_draws, [], []⟩
def d_board : He.DefD := ⟨("_law_board", none), "_law_board", "_law_board", defArgs s_board, defBody s_board, defScope s_board, [], []⟩
def d_moved : He.DefD := ⟨("_law_moved", none), "_law_moved", "_law_moved", defArgs s_moved, defBody s_moved, defScope s_moved, [], []⟩
def d_on_board : He.DefD := ⟨("_law_on_board", none), "_law_on_board", "_law_on_board", defArgs s_on_board, defBody s_on_board, defScope s_on_board, [], []⟩
def d_path : He.DefD := ⟨("_law_path", none), "_law_path", "_law_path", defArgs s_path, defBody s_path, defScope s_path, [], []⟩
def d_long_path : He.DefD := ⟨("_law_long_path", none), "_law_long_path", "_law_long_path", defArgs s_long_path, defBody s_long_path, defScope s_long_path, [], []⟩
def d_part : He.DefD := ⟨("_law_part", none), "_law_part", "_law_part", defArgs s_part, defBody s_part, defScope s_part, [], []⟩
def d_turned : He.DefD := ⟨("_law_turned", none), "_law_turned", "_law_turned", defArgs s_turned, defBody s_turned, defScope s_turned, [], []⟩
def d_sayings : He.DefD := ⟨("_law_sayings", none), "_law_sayings", "_law_sayings", defArgs s_sayings, defBody s_sayings, defScope s_sayings, [], []⟩
def d_rings : He.DefD := ⟨("_law_rings", none), "_law_rings", "_law_rings", defArgs s_rings, defBody s_rings, defScope s_rings, [], []⟩
def d_union : He.DefD := ⟨("_law_union", none), "_law_union", "_law_union", defArgs s_union, defBody s_union, defScope s_union, [], []⟩
def d_half_of : He.DefD := ⟨("half_of", none), "half_of", "half_of", defArgs s_half_of, defBody s_half_of, defScope s_half_of, [], []⟩
def d_path_kind : He.DefD := ⟨("path_kind", none), "path_kind", "path_kind", defArgs s_path_kind, defBody s_path_kind, defScope s_path_kind, [], []⟩
def d_slot_of : He.DefD := ⟨("slot_of", none), "slot_of", "slot_of", defArgs s_slot_of, defBody s_slot_of, defScope s_slot_of, [], []⟩
def d_sayings_of_row : He.DefD := ⟨("sayings_of_row", none), "sayings_of_row", "sayings_of_row", defArgs s_sayings_of_row, defBody s_sayings_of_row, defScope s_sayings_of_row, [], []⟩
def d_sayings_of_path : He.DefD := ⟨("sayings_of_path", none), "sayings_of_path", "sayings_of_path", defArgs s_sayings_of_path, defBody s_sayings_of_path, defScope s_sayings_of_path, [], []⟩
def d_sayings_of_paths : He.DefD := ⟨("sayings_of_paths", none), "sayings_of_paths", "sayings_of_paths", defArgs s_sayings_of_paths, defBody s_sayings_of_paths, defScope s_sayings_of_paths, [], []⟩
def d_said : He.DefD := ⟨("said", none), "said", "said", defArgs s_said, defBody s_said, defScope s_said, [], []⟩
def d_is_integer : He.DefD := ⟨("_law_is_integer", none), "_law_is_integer", "_law_is_integer", defArgs s_is_integer, defBody s_is_integer, defScope s_is_integer, [], []⟩
def d_is_corner : He.DefD := ⟨("_law_is_corner", none), "_law_is_corner", "_law_is_corner", defArgs s_is_corner, defBody s_is_corner, defScope s_is_corner, [], []⟩
def d_is_row : He.DefD := ⟨("_law_is_row", none), "_law_is_row", "_law_is_row", defArgs s_is_row, defBody s_is_row, defScope s_is_row, [], []⟩
def d_certificates : He.DefD := ⟨("_law_certificates", none), "_law_certificates", "_law_certificates", defArgs s_certificates, defBody s_certificates, defScope s_certificates, [], []⟩
def d_is_ring_own : He.DefD := ⟨("is_ring", none), "is_ring", "is_ring", defArgs s_is_ring_own, defBody s_is_ring_own, defScope s_is_ring_own, [], []⟩
def d_is_ring : He.DefD := ⟨("_law_is_ring", none), "_law_is_ring", "_law_is_ring", defArgs s_is_ring, defBody s_is_ring, defScope s_is_ring, [], []⟩
def d_find_ring : He.DefD := ⟨("find_ring", none), "find_ring", "find_ring", defArgs s_find_ring, defBody s_find_ring, defScope s_find_ring, [], []⟩
def d_drawn_path : He.DefD := ⟨("_law_drawn_path", none), "_law_drawn_path", "_law_drawn_path", defArgs s_drawn_path, defBody s_drawn_path, defScope s_drawn_path, [], []⟩
def d_law : He.DefD := ⟨("law", none), "law", "law", defArgs s_law, defBody s_law, defScope s_law, [], []⟩
def fn0 : List He.DefD := [d_cell, d_draws, d_board, d_moved, d_on_board, d_path, d_long_path, d_part, d_turned, d_sayings, d_rings, d_union, d_half_of, d_path_kind, d_slot_of, d_sayings_of_row, d_sayings_of_path, d_sayings_of_paths, d_said, d_is_integer, d_is_corner, d_is_row, d_certificates, d_is_ring_own, d_is_ring, d_find_ring, d_drawn_path, d_law]
def fn : List He.DefD := fn0
def fa0 : List He.Fa := [.glo "_law_cell", .glo "_law_draws", .glo "_law_board", .glo "_law_moved", .glo "_law_on_board", .glo "_law_path", .glo "_law_long_path", .glo "_law_part", .glo "_law_turned", .glo "_law_sayings", .glo "_law_rings", .glo "_law_union", .glo "half_of", .glo "path_kind", .glo "slot_of", .glo "sayings_of_row", .glo "sayings_of_path", .glo "sayings_of_paths", .glo "said", .glo "_law_is_integer", .glo "_law_is_corner", .glo "_law_is_row", .glo "_law_certificates", .glo "is_ring", .glo "_law_is_ring", .glo "find_ring", .glo "_law_drawn_path", .glo "law", .free "bool", .free "int"]
def fa1 : List He.Fa := [.free "isinstance", .free "len", .free "list", .free "max", .free "min", .free "range", .free "sorted", .free "tuple", .str "FALLING" ("falling" : PySem.Str), .str "RISING" ("rising" : PySem.Str)]
def fa : List He.Fa := fa0 ++ fa1
def nm0 : List PySem.Str := ["RISING", "FALLING", "half_of", "slot_of", "path_kind", "sayings_of_row", "sayings_of_path", "sayings_of_paths", "said", "find_ring", "is_ring", "_law_cell", "_law_draws", "_law_board", "_law_moved", "_law_on_board", "_law_path", "_law_is_integer", "_law_is_corner", "_law_is_row", "_law_sayings", "_law_rings", "_law_is_ring", "_law_part", "_law_turned", "_law_long_path", "_law_drawn_path", "_law_certificates", "_law_union"]
def nm : List PySem.Str := nm0
abbrev Ro : PySem.W.OpenRow := PySem.W.OpenLaw.row PySem.Challenge.rw_cornerplane_k18_sayings_and_rings
abbrev hk : PySem.W.Hook := He.hookD 4 fa fn
def ob (s : PySem.W.SharedT) : He.AlD := He.obsDG 4 fa fn (HandSHeadRun.getT s)
theorem ob_eq (s : PySem.W.SharedT) : ob s = hk.obs s.abs := He.obsDG_eq (HandSHeadRun.getT_eq s)
theorem run (w : World) : HandSHeadRun.RunEq Ro (PySem.W.view Ro.prog [34]) hk ob 2000 nm w := by
  intro os
  kernel_rfl
theorem facts {P : Program} {w : World} {K : PySem.W.Frag} {h : Heap} {mg : Str → Option Value} {f : Addr} (X : K.In h) (G : h.Ns mainGlobals mg) (hfa : mg ("law" : Str) = some (.ref f)) (c : He.SaysD fa fn K) :
    ∃ fd : FuncData, (∀ (s : Shared) (v : Value), BindsTo s fd ⟨[v], []⟩ [("_law_script", v)]) ∧ ∀ base : Heap, K.In base → base.Ns mainGlobals mg → FnOk P w K mg base CX 6 f fd ["_law_script"] (sp_law P w K) := by
  obtain ⟨fd_cell, F_cell⟩ := c.def_ 0 (d := d_cell) rfl
  obtain ⟨fd_draws, F_draws⟩ := c.def_ 1 (d := d_draws) rfl
  obtain ⟨fd_board, F_board⟩ := c.def_ 2 (d := d_board) rfl
  obtain ⟨fd_moved, F_moved⟩ := c.def_ 3 (d := d_moved) rfl
  obtain ⟨fd_on_board, F_on_board⟩ := c.def_ 4 (d := d_on_board) rfl
  obtain ⟨fd_path, F_path⟩ := c.def_ 5 (d := d_path) rfl
  obtain ⟨fd_long_path, F_long_path⟩ := c.def_ 6 (d := d_long_path) rfl
  obtain ⟨fd_part, F_part⟩ := c.def_ 7 (d := d_part) rfl
  obtain ⟨fd_turned, F_turned⟩ := c.def_ 8 (d := d_turned) rfl
  obtain ⟨fd_sayings, F_sayings⟩ := c.def_ 9 (d := d_sayings) rfl
  obtain ⟨fd_rings, F_rings⟩ := c.def_ 10 (d := d_rings) rfl
  obtain ⟨fd_union, F_union⟩ := c.def_ 11 (d := d_union) rfl
  obtain ⟨fd_half_of, F_half_of⟩ := c.def_ 12 (d := d_half_of) rfl
  obtain ⟨fd_path_kind, F_path_kind⟩ := c.def_ 13 (d := d_path_kind) rfl
  obtain ⟨fd_slot_of, F_slot_of⟩ := c.def_ 14 (d := d_slot_of) rfl
  obtain ⟨fd_sayings_of_row, F_sayings_of_row⟩ := c.def_ 15 (d := d_sayings_of_row) rfl
  obtain ⟨fd_sayings_of_path, F_sayings_of_path⟩ := c.def_ 16 (d := d_sayings_of_path) rfl
  obtain ⟨fd_sayings_of_paths, F_sayings_of_paths⟩ := c.def_ 17 (d := d_sayings_of_paths) rfl
  obtain ⟨fd_said, F_said⟩ := c.def_ 18 (d := d_said) rfl
  obtain ⟨fd_is_integer, F_is_integer⟩ := c.def_ 19 (d := d_is_integer) rfl
  obtain ⟨fd_is_corner, F_is_corner⟩ := c.def_ 20 (d := d_is_corner) rfl
  obtain ⟨fd_is_row, F_is_row⟩ := c.def_ 21 (d := d_is_row) rfl
  obtain ⟨fd_certificates, F_certificates⟩ := c.def_ 22 (d := d_certificates) rfl
  obtain ⟨fd_is_ring_own, F_is_ring_own⟩ := c.def_ 23 (d := d_is_ring_own) rfl
  obtain ⟨fd_is_ring, F_is_ring⟩ := c.def_ 24 (d := d_is_ring) rfl
  obtain ⟨fd_find_ring, F_find_ring⟩ := c.def_ 25 (d := d_find_ring) rfl
  obtain ⟨fd_drawn_path, F_drawn_path⟩ := c.def_ 26 (d := d_drawn_path) rfl
  obtain ⟨fd_law, F_law⟩ := c.def_ 27 (d := d_law) rfl
  have g_cell := He.glo_ok X G (c.fact 0 (f := .glo "_law_cell") rfl)
  have g_draws := He.glo_ok X G (c.fact 1 (f := .glo "_law_draws") rfl)
  have g_board := He.glo_ok X G (c.fact 2 (f := .glo "_law_board") rfl)
  have g_moved := He.glo_ok X G (c.fact 3 (f := .glo "_law_moved") rfl)
  have g_on_board := He.glo_ok X G (c.fact 4 (f := .glo "_law_on_board") rfl)
  have g_path := He.glo_ok X G (c.fact 5 (f := .glo "_law_path") rfl)
  have g_long_path := He.glo_ok X G (c.fact 6 (f := .glo "_law_long_path") rfl)
  have g_part := He.glo_ok X G (c.fact 7 (f := .glo "_law_part") rfl)
  have g_turned := He.glo_ok X G (c.fact 8 (f := .glo "_law_turned") rfl)
  have g_sayings := He.glo_ok X G (c.fact 9 (f := .glo "_law_sayings") rfl)
  have g_rings := He.glo_ok X G (c.fact 10 (f := .glo "_law_rings") rfl)
  have g_union := He.glo_ok X G (c.fact 11 (f := .glo "_law_union") rfl)
  have g_half_of := He.glo_ok X G (c.fact 12 (f := .glo "half_of") rfl)
  have g_path_kind := He.glo_ok X G (c.fact 13 (f := .glo "path_kind") rfl)
  have g_slot_of := He.glo_ok X G (c.fact 14 (f := .glo "slot_of") rfl)
  have g_sayings_of_row := He.glo_ok X G (c.fact 15 (f := .glo "sayings_of_row") rfl)
  have g_sayings_of_path := He.glo_ok X G (c.fact 16 (f := .glo "sayings_of_path") rfl)
  have g_sayings_of_paths := He.glo_ok X G (c.fact 17 (f := .glo "sayings_of_paths") rfl)
  have g_said := He.glo_ok X G (c.fact 18 (f := .glo "said") rfl)
  have g_is_integer := He.glo_ok X G (c.fact 19 (f := .glo "_law_is_integer") rfl)
  have g_is_corner := He.glo_ok X G (c.fact 20 (f := .glo "_law_is_corner") rfl)
  have g_is_row := He.glo_ok X G (c.fact 21 (f := .glo "_law_is_row") rfl)
  have g_certificates := He.glo_ok X G (c.fact 22 (f := .glo "_law_certificates") rfl)
  have g_is_ring_own := He.glo_ok X G (c.fact 23 (f := .glo "is_ring") rfl)
  have g_is_ring := He.glo_ok X G (c.fact 24 (f := .glo "_law_is_ring") rfl)
  have g_find_ring := He.glo_ok X G (c.fact 25 (f := .glo "find_ring") rfl)
  have g_drawn_path := He.glo_ok X G (c.fact 26 (f := .glo "_law_drawn_path") rfl)
  have g_law := He.glo_ok X G (c.fact 27 (f := .glo "law") rfl)
  have bt : Bt mg := ⟨He.free_ok X G (c.fact 28 (f := .free "bool") rfl), He.free_ok X G (c.fact 29 (f := .free "int") rfl), He.free_ok X G (c.fact 30 (f := .free "isinstance") rfl), He.free_ok X G (c.fact 31 (f := .free "len") rfl), He.free_ok X G (c.fact 32 (f := .free "list") rfl), He.free_ok X G (c.fact 33 (f := .free "max") rfl), He.free_ok X G (c.fact 34 (f := .free "min") rfl), He.free_ok X G (c.fact 35 (f := .free "range") rfl), He.free_ok X G (c.fact 36 (f := .free "sorted") rfl), He.free_ok X G (c.fact 37 (f := .free "tuple") rfl), He.str_ok X G (c.fact 38 (f := .str "FALLING" ("falling" : PySem.Str)) rfl), He.str_ok X G (c.fact 39 (f := .str "RISING" ("rising" : PySem.Str)) rfl)⟩
  have e := hfa.symm.trans g_law
  cases e
  have b_law := FunD.bindsA (ps := ["_law_script"]) F_law fun _ _ _ _ _ _ us hl => match us, hl with | [_], _ => rfl
  refine ⟨fd_law, fun s v => b_law s [v] rfl, fun base _ _ => ?_⟩
  have C_cell : Cal P w K mg base CX 1 "_law_cell" ["_law_script", "_law_k"] (sp_cell P w K) := ⟨_, fd_cell, ok_cell F_cell  bt, g_cell, F_cell.kp, F_cell.bindsN fun _ _ _ _ _ _ us hl => match us, hl with | [_, _], _ => rfl⟩
  have C_draws : Cal P w K mg base CX 1 "_law_draws" ["_law_cell_here", "_law_sizes"] (sp_draws P w K) := ⟨_, fd_draws, ok_draws F_draws  bt, g_draws, F_draws.kp, F_draws.bindsN fun _ _ _ _ _ _ us hl => match us, hl with | [_, _], _ => rfl⟩
  have C_board : Cal P w K mg base CX 2 "_law_board" ["_law_cell_here", "_law_most"] (sp_board P w K) := ⟨_, fd_board, ok_board F_board C_draws bt, g_board, F_board.kp, F_board.bindsN fun _ _ _ _ _ _ us hl => match us, hl with | [_, _], _ => rfl⟩
  have C_moved : Cal P w K mg base CX 1 "_law_moved" ["_law_corner", "_law_letter"] (sp_moved P w K) := ⟨_, fd_moved, ok_moved F_moved  bt, g_moved, F_moved.kp, F_moved.bindsN fun _ _ _ _ _ _ us hl => match us, hl with | [_, _], _ => rfl⟩
  have C_on_board : Cal P w K mg base CX 1 "_law_on_board" ["_law_board_here", "_law_corner"] (sp_on_board P w K) := ⟨_, fd_on_board, ok_on_board F_on_board  bt, g_on_board, F_on_board.kp, F_on_board.bindsN fun _ _ _ _ _ _ us hl => match us, hl with | [_, _], _ => rfl⟩
  have C_path : Cal P w K mg base CX 2 "_law_path" ["_law_board_here", "_law_cell_here"] (sp_path P w K) := ⟨_, fd_path, ok_path F_path C_draws C_moved C_on_board bt, g_path, F_path.kp, F_path.bindsN fun _ _ _ _ _ _ us hl => match us, hl with | [_, _], _ => rfl⟩
  have C_long_path : Cal P w K mg base CX 2 "_law_long_path" ["_law_board_here", "_law_half", "_law_cell_here"] (sp_long_path P w K) := ⟨_, fd_long_path, ok_long_path F_long_path C_draws C_moved C_on_board bt, g_long_path, F_long_path.kp, F_long_path.bindsN fun _ _ _ _ _ _ us hl => match us, hl with | [_, _, _], _ => rfl⟩
  have C_part : Cal P w K mg base CX 1 "_law_part" ["_law_path_here", "_law_i", "_law_j"] (sp_part P w K) := ⟨_, fd_part, ok_part F_part  bt, g_part, F_part.kp, F_part.bindsN fun _ _ _ _ _ _ us hl => match us, hl with | [_, _, _], _ => rfl⟩
  have C_turned : Cal P w K mg base CX 1 "_law_turned" ["_law_path_here"] (sp_turned P w K) := ⟨_, fd_turned, ok_turned F_turned  bt, g_turned, F_turned.kp, F_turned.bindsN fun _ _ _ _ _ _ us hl => match us, hl with | [_], _ => rfl⟩
  have C_sayings : Cal P w K mg base CX 1 "_law_sayings" ["_law_board_here", "_law_half", "_law_path_here"] (sp_sayings P w K) := ⟨_, fd_sayings, ok_sayings F_sayings  bt, g_sayings, F_sayings.kp, F_sayings.bindsN fun _ _ _ _ _ _ us hl => match us, hl with | [_, _, _], _ => rfl⟩
  have C_rings : Cal P w K mg base CX 1 "_law_rings" ["_law_says"] (sp_rings P w K) := ⟨_, fd_rings, ok_rings F_rings  bt, g_rings, F_rings.kp, F_rings.bindsN fun _ _ _ _ _ _ us hl => match us, hl with | [_], _ => rfl⟩
  have C_union : Cal P w K mg base CX 1 "_law_union" ["_law_says"] (sp_union P w K) := ⟨_, fd_union, ok_union F_union  bt, g_union, F_union.kp, F_union.bindsN fun _ _ _ _ _ _ us hl => match us, hl with | [_], _ => rfl⟩
  have C_half_of : Cal P w K mg base CX 1 "half_of" ["p", "q"] (sp_half_of P w K) := ⟨_, fd_half_of, ok_half_of F_half_of  bt, g_half_of, F_half_of.kp, F_half_of.bindsN fun _ _ _ _ _ _ us hl => match us, hl with | [_, _], _ => rfl⟩
  have C_path_kind : Cal P w K mg base CX 2 "path_kind" ["path"] (sp_path_kind P w K) := ⟨_, fd_path_kind, ok_path_kind F_path_kind C_half_of bt, g_path_kind, F_path_kind.kp, F_path_kind.bindsN fun _ _ _ _ _ _ us hl => match us, hl with | [_], _ => rfl⟩
  have C_slot_of : Cal P w K mg base CX 1 "slot_of" ["board", "half", "corner"] (sp_slot_of P w K) := ⟨_, fd_slot_of, ok_slot_of F_slot_of  bt, g_slot_of, F_slot_of.kp, F_slot_of.bindsN fun _ _ _ _ _ _ us hl => match us, hl with | [_, _, _], _ => rfl⟩
  have C_sayings_of_row : Cal P w K mg base CX 1 "sayings_of_row" ["slot", "row"] (sp_sayings_of_row P w K) := ⟨_, fd_sayings_of_row, ok_sayings_of_row F_sayings_of_row  bt, g_sayings_of_row, F_sayings_of_row.kp, F_sayings_of_row.bindsN fun _ _ _ _ _ _ us hl => match us, hl with | [_, _], _ => rfl⟩
  have C_sayings_of_path : Cal P w K mg base CX 3 "sayings_of_path" ["board", "half", "path"] (sp_sayings_of_path P w K) := ⟨_, fd_sayings_of_path, ok_sayings_of_path F_sayings_of_path C_path_kind C_slot_of C_sayings_of_row bt, g_sayings_of_path, F_sayings_of_path.kp, F_sayings_of_path.bindsN fun _ _ _ _ _ _ us hl => match us, hl with | [_, _, _], _ => rfl⟩
  have C_sayings_of_paths : Cal P w K mg base CX 4 "sayings_of_paths" ["board", "half", "paths"] (sp_sayings_of_paths P w K) := ⟨_, fd_sayings_of_paths, ok_sayings_of_paths F_sayings_of_paths C_sayings_of_path bt, g_sayings_of_paths, F_sayings_of_paths.kp, F_sayings_of_paths.bindsN fun _ _ _ _ _ _ us hl => match us, hl with | [_, _, _], _ => rfl⟩
  have C_said : Cal P w K mg base CX 5 "said" ["board", "half", "paths"] (sp_said P w K) := ⟨_, fd_said, ok_said F_said C_sayings_of_paths bt, g_said, F_said.kp, F_said.bindsN fun _ _ _ _ _ _ us hl => match us, hl with | [_, _, _], _ => rfl⟩
  have C_is_integer : Cal P w K mg base CX 1 "_law_is_integer" ["_law_told"] (sp_is_integer P w K) := ⟨_, fd_is_integer, ok_is_integer F_is_integer  bt, g_is_integer, F_is_integer.kp, F_is_integer.bindsN fun _ _ _ _ _ _ us hl => match us, hl with | [_], _ => rfl⟩
  have C_is_corner : Cal P w K mg base CX 2 "_law_is_corner" ["_law_told"] (sp_is_corner P w K) := ⟨_, fd_is_corner, ok_is_corner F_is_corner C_is_integer bt, g_is_corner, F_is_corner.kp, F_is_corner.bindsN fun _ _ _ _ _ _ us hl => match us, hl with | [_], _ => rfl⟩
  have C_is_row : Cal P w K mg base CX 3 "_law_is_row" ["_law_told", "_law_wanted"] (sp_is_row P w K) := ⟨_, fd_is_row, ok_is_row F_is_row C_is_corner bt, g_is_row, F_is_row.kp, F_is_row.bindsN fun _ _ _ _ _ _ us hl => match us, hl with | [_, _], _ => rfl⟩
  have C_certificates : Cal P w K mg base CX 2 "_law_certificates" ["_law_cell_here", "_law_rings_here", "_law_count", "_law_size"] (sp_certificates P w K) := ⟨_, fd_certificates, ok_certificates F_certificates C_draws bt, g_certificates, F_certificates.kp, F_certificates.bindsN fun _ _ _ _ _ _ us hl => match us, hl with | [_, _, _, _], _ => rfl⟩
  have C_is_ring_own : Cal P w K mg base CX 4 "is_ring" ["board", "half", "paths", "certificate"] (sp_is_ring_own P w K) := ⟨_, fd_is_ring_own, ok_is_ring_own F_is_ring_own C_sayings_of_path bt, g_is_ring_own, F_is_ring_own.kp, F_is_ring_own.bindsN fun _ _ _ _ _ _ us hl => match us, hl with | [_, _, _, _], _ => rfl⟩
  have C_is_ring : Cal P w K mg base CX 2 "_law_is_ring" ["_law_told", "_law_says"] (sp_is_ring P w K) := ⟨_, fd_is_ring, ok_is_ring F_is_ring C_is_integer bt, g_is_ring, F_is_ring.kp, F_is_ring.bindsN fun _ _ _ _ _ _ us hl => match us, hl with | [_, _], _ => rfl⟩
  have C_find_ring : Cal P w K mg base CX 5 "find_ring" ["board", "half", "paths"] (sp_find_ring P w K) := ⟨_, fd_find_ring, ok_find_ring F_find_ring C_sayings_of_paths bt, g_find_ring, F_find_ring.kp, F_find_ring.bindsN fun _ _ _ _ _ _ us hl => match us, hl with | [_, _, _], _ => rfl⟩
  have C_is_ring_2 : Cal P w K mg base CX 2 "_law_is_ring" ["_law_told", "_law_says"] (sp_is_ring_2 P w K) := ⟨_, fd_is_ring, ok_is_ring_2 F_is_ring C_is_integer bt, g_is_ring, F_is_ring.kp, F_is_ring.bindsN fun _ _ _ _ _ _ us hl => match us, hl with | [_, _], _ => rfl⟩
  have C_is_ring_own_2 : Cal P w K mg base CX 4 "is_ring" ["board", "half", "paths", "certificate"] (sp_is_ring_own_2 P w K) := ⟨_, fd_is_ring_own, ok_is_ring_own_2 F_is_ring_own C_sayings_of_path bt, g_is_ring_own, F_is_ring_own.kp, F_is_ring_own.bindsN fun _ _ _ _ _ _ us hl => match us, hl with | [_, _, _, _], _ => rfl⟩
  have C_drawn_path : Cal P w K mg base CX 3 "_law_drawn_path" ["_law_board_here", "_law_half", "_law_cell_here", "_law_paths"] (sp_drawn_path P w K) := ⟨_, fd_drawn_path, ok_drawn_path F_drawn_path C_draws C_turned C_path C_long_path C_part bt, g_drawn_path, F_drawn_path.kp, F_drawn_path.bindsN fun _ _ _ _ _ _ us hl => match us, hl with | [_, _, _, _], _ => rfl⟩
  exact ok_law F_law C_cell C_board C_draws C_drawn_path C_sayings C_rings C_union C_said C_is_row C_certificates C_is_ring_own C_is_ring C_find_ring C_is_ring_2 C_is_ring_own_2 bt
theorem scr_all : ∀ ns : List Int, (H : Hp) → (yInt (K := K)).all ns H (ns.map V.int)
  | [], _ => .nil
  | _ :: ns, H => .cons rfl (scr_all ns H)
theorem sp_ends {P : Program} {w : World} (hm : ∀ ns : List Int, ns.length ≤ 63 → m_law ns = .ok true) {H : Hp} {a : Addr} {ns : List Int} (hl : ns.length ≤ 63) (hS : SqL K H a (ns.map V.int)) : sp_law P w K [.ref a] H (fun v _ => v = .bl true) fun _ _ _ => False := by
  refine ⟨H, ns, Same.refl _, ⟨_, rfl, a, _, rfl, hS, scr_all ns H⟩, ?_⟩
  have e : (fun a => m_law a) ns = .ok true := hm ns hl
  rw [e]
  exact fun F' v H' _ _ _ _ q => q
end CpLaw
open PySem PySem.W PySem.Calls PyProof.Rows
theorem PySem.Challenge.cw_cornerplane_k18_sayings_and_rings_holds : PySem.Challenge.rw_cornerplane_k18_sayings_and_rings.Holds := by
  w_on; o_law
  refine HandSHeadRun.head_any (r := OpenLaw.row PySem.Challenge.rw_cornerplane_k18_sayings_and_rings) (q := view (OpenLaw.row PySem.Challenge.rw_cornerplane_k18_sayings_and_rings).prog [34]) (H := CpLaw.hk) (ob := CpLaw.ob) (M := 2000) (loose := CpLaw.nm) (d := HandSHeadRun.topDef (OpenLaw.row PySem.Challenge.rw_cornerplane_k18_sayings_and_rings).prog 34) (kwd := []) CpLaw.ob_eq
    (by kernel_rfl) (fun s => by kernel_rfl) CpLaw.run (by kernel_rfl) (by kernel_rfl) (by kernel_rfl) (by rfl) (by first | assumption | decide +kernel) (by decide +kernel) ⟨rfl, rfl, rfl, rfl, rfl, by decide +kernel⟩ ?hw ?hc
  case hw => w_witness2
  case hc =>
    refine L2.walk_ofE (l := PySem.Challenge.rw_cornerplane_k18_sayings_and_rings) (n := 63) (k := 6) (x := "_law_script") (CX := CpLaw.CX) rfl (by decide) (by kernel_rfl) ⟨rfl, by decide, by decide⟩ ?F (fun _ _ _ _ z => z)
    intro w mg fa h Y G hmg0
    obtain ⟨K, KX, c⟩ := Y
    have hmg : mg ("law" : PySem.Str) = some (.ref fa) := by
      have e : (HandSHeadRun.topDef (OpenLaw.row PySem.Challenge.rw_cornerplane_k18_sayings_and_rings).prog 34).name = ("law" : PySem.Str) := by kernel_rfl
      rw [← e]
      exact hmg0
    obtain ⟨fd, hb, hF⟩ := CpLaw.facts (P := (PySem.Challenge.rw_cornerplane_k18_sayings_and_rings).prog) (w := w) KX G hmg c
    exact ⟨K, fd, CpLaw.sp_law _ _ K, KX, hb, fun H a ns hl _ hS => CpLaw.sp_ends CpLaw.law_math hl hS, hF⟩
