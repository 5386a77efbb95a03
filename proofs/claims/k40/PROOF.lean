import PyProof.Rows.All
import Wide.All
import OpenK.AllK
import Wide.FinOn
import KE.KStateDown
import HandS.Base
import HandS.Call
import HandS.Ends
import HandS.More
import HandS.Words
import HandS.WordsExc
import HandS.Defaults
import HandS.Head0
import HandS.Head1
import HandS.Head2
import HandS.HeadEnd
import HandS.HeadHook1
import HandS.HeadHook2
import HandS.HeadHook4
import HandS.HeadWalk
import HandS.ForMost
import HandS.Deep
import HandS.Zip
import HandS.ForExc
import HandS.IsInst
import HandS.Flow
import HandS.Style
import HandS.TupAny
import HandS.SortInts
import HandS.Text
import HandS.Conv
import HandS.Exc
import HandS.Dict
import KE.KDictKeyed
import HandS.DictComp
import HandS.Iter
import KE.GoesEnum
import KE.SortData
import HandS.TupLen
import KE.KDictCopyH
import HandS.List
import KE.DataMinMax
import KE.Datum
import KE.DatumOrd
import KE.SortKeyed
import KE.KLam
import HandS.Lambda
import HandS.SortKw
import HandS.EndTab
import HandS.ExcInit
import HandS.ExcSuper
import KE.KExcSuper
import KE.KExcIs
import HandS.ExcValue
import KE.KTryMore
import HandS.ExcValueHot
import HandS.HotCalls
import KE.KExcPX
import KE.GoesMore
import KE.GoesZip
import HandS.Strs
import KE.KDictList
import HandS.MakeKwOnly
import HandS.FStr
import HandS.TupSets
import HandS.SetKeys
import PySem.Challenge.RW_cornerplane_k40_whole_closure_in_any_ord
set_option Elab.async false
set_option linter.all false
set_option maxRecDepth 100000
set_option maxHeartbeats 0
set_option synthInstance.maxHeartbeats 0
set_option synthInstance.maxSize 100000
set_option autoImplicit false
namespace Cp
open PySem L2
inductive R (ε α : Type) where
  | ok (a : α) | exn (e : ε) | bad
def R.bind {ε α β : Type} (m : R ε α) (k : α → R ε β) : R ε β := match m with
  | .ok a => k a
  | .exn e => .exn e
  | .bad => .bad
@[reducible] def R.map {ε α β : Type} (f : α → β) (m : R ε α) : R ε β := m.bind fun a => .ok (f a)
@[simp] theorem R.bind_ok {ε α β : Type} (a : α) (k : α → R ε β) : (R.ok a).bind k = k a := rfl
@[simp] theorem R.bind_exn {ε α β : Type} (e : ε) (k : α → R ε β) : (R.exn e).bind k = .exn e := rfl
@[simp] theorem R.bind_bad {ε α β : Type} (k : α → R ε β) : (R.bad : R ε α).bind k = .bad := rfl
theorem bo {ε α β : Type} (a : α) (k : α → R ε β) : (R.ok a).bind k = k a := Eq.trans (R.bind_ok a k) (Eq.refl (k a))
theorem R.bind_assoc {ε α β γ : Type} (m : R ε α) (k : α → R ε β) (l : β → R ε γ) : (m.bind k).bind l = m.bind fun a => (k a).bind l := by
  cases m <;> rfl
theorem prd_app {α β : Type} {F : α → β → Prop} : ∀ {xs ys : List α} {us ws : List β}, Paired F xs us → Paired F ys ws → Paired F (xs ++ ys) (us ++ ws)
  | _, _, _, _, .nil, s => s
  | _, _, _, _, .cons r t, s => .cons r (prd_app t s)
theorem prd_take {α β : Type} {F : α → β → Prop} : ∀ {xs : List α} {us : List β} (n : Nat), Paired F xs us → Paired F (xs.take n) (us.take n)
  | _, _, 0, _ => .nil
  | _, _, _ + 1, .nil => .nil
  | _, _, n + 1, .cons r t => .cons r (prd_take n t)
theorem prd_drop {α β : Type} {F : α → β → Prop} : ∀ {xs : List α} {us : List β} (n : Nat), Paired F xs us → Paired F (xs.drop n) (us.drop n)
  | _, _, 0, r => r
  | _, _, n + 1, .nil => .nil
  | _, _, n + 1, .cons _ t => prd_drop n t
theorem prd_rev {α β : Type} {F : α → β → Prop} {xs : List α} {us : List β} (h : Paired F xs us) : Paired F xs.reverse us.reverse := by
  induction h with
  | nil => exact .nil
  | cons r t ih => rw [List.reverse_cons, List.reverse_cons]; exact prd_app ih (.cons r .nil)
theorem prd_rep {α β : Type} {F : α → β → Prop} {xs : List α} {us : List β} (h : Paired F xs us) : ∀ k : Nat, Paired F (List.replicate k xs).flatten (List.replicate k us).flatten
  | 0 => .nil
  | k + 1 => by
    rw [List.replicate_succ, List.replicate_succ, List.flatten_cons, List.flatten_cons]
    exact prd_app h (prd_rep h k)
variable {K : PySem.W.Frag}
theorem Same.sqt {H H' : Hp} {a : Addr} {xs : List V} (e : Same H H') (h : SqT K H a xs) : SqT K H' a xs := by
  rcases h with (h | ⟨o, h⟩) | h
  · exact .inl (.inl (e _ _ h))
  · exact .inl (.inr ⟨o, e _ _ h⟩)
  · exact .inr h
structure Ty (K : PySem.W.Frag) (α : Type) where
  rel : α → Hp → V → Prop
  mono : ∀ {a : α} {F F' : Hp} {v : V}, Same F F' → rel a F v → rel a F' v
abbrev Ty.all {α : Type} (T : Ty K α) (l : List α) (F : Hp) (xs : List V) : Prop := Paired (fun v a => T.rel a F v) xs l
theorem Ty.all_mono {α : Type} {T : Ty K α} {l : List α} {F F' : Hp} {xs : List V} (e : Same F F') (h : T.all l F xs) : T.all l F' xs := Paired.mapP h fun _ _ => T.mono e
/-- a list of values of given types: arguments, the places of a tuple -/
structure Tys (K : PySem.W.Frag) (α : Type) where
  n : Nat
  rel : α → Hp → List V → Prop
  mono : ∀ {a : α} {F F' : Hp} {v : List V}, Same F F' → rel a F v → rel a F' v
  len : ∀ {a : α} {F : Hp} {v : List V}, rel a F v → v.length = n
def tys0 : Tys K Unit := ⟨0, fun _ _ vs => vs = [], fun _ h => h, fun h => by rw [h]; rfl⟩
def tys1 {α : Type} (T : Ty K α) : Tys K α := ⟨1, fun a F vs => ∃ v, vs = [v] ∧ T.rel a F v, fun e ⟨v, h, r⟩ => ⟨v, h, T.mono e r⟩, fun ⟨v, h, _⟩ => by rw [h]; rfl⟩
def tysC {α β : Type} (T : Ty K α) (U : Tys K β) : Tys K (α × β) := ⟨U.n + 1, fun a F vs => ∃ v r, vs = v :: r ∧ T.rel a.1 F v ∧ U.rel a.2 F r, fun e ⟨v, r, h, q, z⟩ => ⟨v, r, h, T.mono e q, U.mono e z⟩, fun ⟨v, r, h, _, z⟩ => by rw [h, List.length_cons, U.len z]⟩
def yInt : Ty K Int := ⟨fun i _ v => v = .int i, fun _ h => h⟩
def yBl : Ty K Bool := ⟨fun i _ v => v = .bl i, fun _ h => h⟩
def yStr : Ty K Str := ⟨fun i _ v => v = .str i ∧ PySem.PyData.strOk i = true, fun _ h => h⟩
def yNon : Ty K Unit := ⟨fun _ _ v => v = .non, fun _ h => h⟩
def yTup {α : Type} (U : Tys K α) : Ty K α := ⟨fun a F v => ∃ p xs, v = .ref p ∧ SqT K F p xs ∧ U.rel a F xs, fun e ⟨p, xs, h, q, r⟩ => ⟨p, xs, h, Same.sqt e q, U.mono e r⟩⟩
def yTupOf {α : Type} (T : Ty K α) : Ty K (List α) := ⟨fun a F v => ∃ p xs, v = .ref p ∧ SqT K F p xs ∧ T.all a F xs, fun e ⟨p, xs, h, q, r⟩ => ⟨p, xs, h, Same.sqt e q, Ty.all_mono e r⟩⟩
def yLst {α : Type} (T : Ty K α) : Ty K (List α) := ⟨fun a F v => ∃ p xs, v = .ref p ∧ F p = some (.lst xs) ∧ T.all a F xs, fun e ⟨p, xs, h, q, r⟩ => ⟨p, xs, h, e _ _ q, Ty.all_mono e r⟩⟩
/-- a list that may stand in the written part, or be locked (the script) -/
def yScr {α : Type} (T : Ty K α) : Ty K (List α) := ⟨fun a F v => ∃ p xs, v = .ref p ∧ SqL K F p xs ∧ T.all a F xs, fun e ⟨p, xs, h, q, r⟩ => ⟨p, xs, h, Same.seq e q, Ty.all_mono e r⟩⟩
def yOpt {α : Type} (T : Ty K α) : Ty K (Option α) := ⟨fun a F v => match a with
  | none => v = .non
  | some x => T.rel x F v ∧ v ≠ .non, fun {a} _ _ _ e h => by
    cases a with
    | none => exact h
    | some x => exact ⟨T.mono e h.1, h.2⟩⟩
/-- what a def may own: a list, a dict, a set -/
def Lc : HO → Prop
  | .lst _ => True
  | .dK _ => True
  | .dT _ => True
  | .set _ _ => True
  | .ins _ _ _ => True
  | .ext _ => True
  | _ => False
/-- all but the tables stay; a table stays a table -/
def Sm (H H' : Hp) : Prop := ∀ a o, H a = some o → H' a = some o ∨ ((∃ ps, o = .tbl ps) ∧ ∃ ps, H' a = some (.tbl ps))
theorem Sm.refl (H : Hp) : Sm H H := fun _ _ e => .inl e
theorem Sm.of {H H' : Hp} (s : Same H H') : Sm H H' := fun a o e => .inl (s a o e)
theorem Sm.trans {H H1 H2 : Hp} (s : Sm H H1) (s' : Sm H1 H2) : Sm H H2 := fun a o e => by
  rcases s a o e with e1 | ⟨⟨ps, e1⟩, ps', e2⟩
  · exact s' a o e1
  · rcases s' a _ e2 with e3 | ⟨_, ps2, e3⟩
    · exact .inr ⟨⟨ps, e1⟩, ps', e3⟩
    · exact .inr ⟨⟨ps, e1⟩, ps2, e3⟩
theorem Sm.dom {H H' : Hp} {a : Addr} (s : Sm H H') (h : ∃ o, H a = some o) : ∃ o, H' a = some o := by
  obtain ⟨o, e⟩ := h
  rcases s a o e with e1 | ⟨_, ps, e1⟩
  · exact ⟨_, e1⟩
  · exact ⟨_, e1⟩
theorem Sm.free {H H' : Hp} {a : Addr} (s : Sm H H') (h : H' a = none) : H a = none := by
  cases q : H a with
  | none => rfl
  | some o =>
    obtain ⟨u, e⟩ := s.dom ⟨o, q⟩
    rw [h] at e; cases e
theorem Sm.at_ {H H' : Hp} {a : Addr} {o : HO} (s : Sm H H') (e : H a = some o) (n : ∀ ps, o ≠ .tbl ps) : H' a = some o := by
  rcases s a o e with e1 | ⟨⟨ps, e1⟩, _⟩
  · exact e1
  · exact (n ps e1).elim
theorem Lc.nt {o : HO} (h : Lc o) (ps : Array Value) : o ≠ .tbl ps := fun e => by subst e; exact h
theorem Lc.nf {o : HO} (h : Lc o) (ob : Obj) (u : HO) : o ≠ .frz ob u := fun e => by subst e; exact h
/-- the table at P: its code objects bear the name q -/
def TbS (H : Hp) (P : Addr) (q : Str) : Prop := ∃ ps : Array Value, H P = some (.tbl ps) ∧ TriplesOk ps.toList ∧
  ∀ (pos : Pos) (cv : Value), codeAmong pos ps.toList = some cv → ∃ (c : Addr) (oc : Obj) (vs : Array Value) (t : Tok), cv = .ref c ∧ H c = some (.frz oc (.own 0)) ∧ oc.data = .fields vs ∧ vs[1]? = some (.str q t)
def Tbs (T : List (Addr × Str)) (H : Hp) : Prop := ∀ p ∈ T, TbS H p.1 p.2
theorem TbS.ext {H H' : Hp} {P : Addr} {q : Str} (s : Same H H') (t : TbS H P q) : TbS H' P q := by
  obtain ⟨ps, h1, h2, h3⟩ := t
  exact ⟨ps, s _ _ h1, h2, fun pos cv hc => let ⟨c, oc, vs, t, e1, e2, e3⟩ := h3 pos cv hc; ⟨c, oc, vs, t, e1, s _ _ e2, e3⟩⟩
theorem Tbs.ext {T : List (Addr × Str)} {H H' : Hp} (s : Same H H') (t : Tbs T H) : Tbs T H' := fun p hp => (t p hp).ext s
theorem TbS.chg {H : Hp} {P p : Addr} {q : Str} {o o' : HO} (t : TbS H P q) (hp : H p = some o) (hl : Lc o) : TbS (upd H p o') P q := by
  obtain ⟨ps, h1, h2, h3⟩ := t
  refine ⟨ps, ?_, h2, fun pos cv hc => let ⟨c, oc, vs, t, e1, e2, e3⟩ := h3 pos cv hc; ⟨c, oc, vs, t, e1, ?_, e3⟩⟩
  · rw [upd_ne fun e => hl.nt ps (by rw [e, hp] at h1; exact Option.some.inj h1)]; exact h1
  · rw [upd_ne fun e => hl.nf oc _ (by rw [e, hp] at e2; exact Option.some.inj e2)]; exact e2
theorem Tbs.chg {T : List (Addr × Str)} {H : Hp} {p : Addr} {o o' : HO} (t : Tbs T H) (hp : H p = some o) (hl : Lc o) : Tbs T (upd H p o') := fun x hx => (t x hx).chg hp hl
def lamDefs : List (Str × Str) := [("pairs_by_steps", "pairs_by_steps.<locals>.<lambda>"), ("ranked_steeps", "ranked_steeps.<locals>.<lambda>")]
/-- the table of a def's code object -/
def tabA (K : PySem.W.Frag) (x : Str) : Option Addr := match PySem.W.nsIn K mainGlobals x with
  | some (some (.ref f)) => (match K.lookup f with
    | some ⟨_, _, .func fd, _⟩ => (match fd.code with
      | .ref c => (match K.lookup c with
        | some ⟨_, _, .fields vs, _⟩ => (match vs.getD 11 .none with
          | .ref P => some P
          | _ => none)
        | _ => none)
      | _ => none)
    | _ => none)
  | _ => none
def tabs (K : PySem.W.Frag) : List (Addr × Str) := lamDefs.filterMap fun p => (tabA K p.1).map fun P => (P, p.2)
structure Ct (K : PySem.W.Frag) (α : Type) where
  obj : α → Hp → Addr → HO → Prop
  mono : ∀ {a : α} {F F' : Hp} {p : Addr} {o : HO}, Same F F' → obj a F p o → obj a F' p o
  mu : ∀ {a : α} {F : Hp} {p : Addr} {o : HO}, obj a F p o → Lc o
def cLst {α : Type} (T : Ty K α) : Ct K (List α) := ⟨fun a F _ o => ∃ xs, o = .lst xs ∧ T.all a F xs, fun e ⟨xs, h, r⟩ => ⟨xs, h, Ty.all_mono e r⟩, fun ⟨xs, h, _⟩ => by subst h; trivial⟩
/-- the entry: what was there (H0), what of it stays as it is and may be leant on (F0) -/
structure B where
  H0 : Hp
  F0 : Hp
inductive Slt (K : PySem.W.Frag) : Type 1 where
  | pl {α : Type} (T : Ty K α) (a : α)
  | ow {α : Type} (C : Ct K α) (a : α)
def Slt.isOw : Slt K → Bool
  | .pl _ _ => false
  | .ow _ _ => true
def Slt.At (b : B) (F H : Hp) (v : V) : Slt K → Prop
  | .pl T a => T.rel a F v
  | .ow C a => ∃ p o, v = .ref p ∧ H p = some o ∧ F p = none ∧ b.H0 p = none ∧ C.obj a F p o
abbrev Ev (K : PySem.W.Frag) := List (Option (Slt K))
/-- new cells of F were not there at the entry -/
def Nw (b : B) (F : Hp) : Prop := ∀ a o, F a = some o → b.F0 a = none → b.H0 a = none
structure Sta (b : B) (ρ : Ev K) (F : Hp) (σ : St) (H : Hp) : Prop where
  h0 : Sm b.H0 H
  tb : Tbs (tabs K) H
  nt : ∀ p ∈ tabs K, F p.1 = none
  f0 : Same b.F0 F
  fh : Same F H
  nw : Nw b F
  len : σ.length = ρ.length
  sl : ∀ (i : Nat) (s : Slt K), ρ[i]? = some (some s) → ∃ v, σ[i]? = some (some v) ∧ s.At b F H v
  ds : ∀ (i j : Nat) (s t : Slt K) (v : Option V), ρ[i]? = some (some s) → ρ[j]? = some (some t) → s.isOw = true → t.isOw = true → σ[i]? = some v → σ[j]? = some v → i = j
section
variable {b : B} {ρ : Ev K} {F F' : Hp} {σ : St} {H H' : Hp}
theorem Slt.At.mono {s : Slt K} {v : V} (a : s.At b F H v) (h : Sm H H') (f : Same F F') (hf : ∀ p, (∃ o, H p = some o) → F p = none → F' p = none) : s.At b F' H' v := by
  cases s with
  | pl T a' => exact T.mono f a
  | ow C a' =>
    obtain ⟨p, o, e, e1, e2, e3, e4⟩ := a
    exact ⟨p, o, e, h.at_ e1 (C.mu e4).nt, hf p ⟨o, e1⟩ e2, e3, C.mono f e4⟩
/-- the heap grows; what is leant on grows by new things alone -/
theorem Sta.grow (S : Sta b ρ F σ H) (h : Sm H H') (tb : Tbs (tabs K) H') (f : Same F F') (fh : Same F' H') (hf : ∀ p, (∃ o, H p = some o) → F p = none → F' p = none) : Sta b ρ F' σ H' :=
  have nw : Nw b F' := fun a o e1 e2 => by
    cases q : F a with
    | some u => exact S.nw a u q e2
    | none =>
      cases z : b.H0 a with
      | none => rfl
      | some u =>
        have := hf a (S.h0.dom ⟨u, z⟩) q
        rw [this] at e1; cases e1
  ⟨S.h0.trans h, tb, fun p hp => hf p.1 (let ⟨ps, e, _⟩ := S.tb p hp; ⟨_, e⟩) (S.nt p hp), S.f0.trans f, fh, nw, S.len, fun i s e => let ⟨v, q, a⟩ := S.sl i s e; ⟨v, q, a.mono h f hf⟩, S.ds⟩
theorem same_upd {p : Addr} {o : HO} (n : H p = none) : Same H (upd H p o) := fun c u e => by rw [upd_ne (ne_of_none e n)]; exact e
theorem same_upd2 {p : Addr} {o : HO} (fh : Same F H) (n : H p = none) : Same (upd F p o) (upd H p o) := fun c u e => by
  by_cases hc : c = p
  · subst hc; rw [upd_same] at e ⊢; exact e
  · rw [upd_ne hc] at e ⊢; exact fh _ _ e
/-- a new object that stays as it is -/
theorem Sta.new {p : Addr} {o : HO} (S : Sta b ρ F σ H) (n : H p = none) : Sta b ρ (upd F p o) σ (upd H p o) :=
  S.grow (.of (same_upd n)) (S.tb.ext (same_upd n)) (same_upd (S.fh.free n)) (same_upd2 S.fh n) fun q ⟨u, e⟩ z => by rw [upd_ne (ne_of_none e n)]; exact z
/-- a new object that is not leant on -/
theorem Sta.newH {p : Addr} {o : HO} (S : Sta b ρ F σ H) (n : H p = none) : Sta b ρ F σ (upd H p o) :=
  S.grow (.of (same_upd n)) (S.tb.ext (same_upd n)) (Same.refl _) (S.fh.trans (same_upd n)) fun q _ z => z
theorem Sta.freshF (S : Sta b ρ F σ H) {p : Addr} (n : H p = none) : F p = none := S.fh.free n
theorem Sta.freshB (S : Sta b ρ F σ H) {p : Addr} (n : H p = none) : b.H0 p = none := S.h0.free n
/-- data without lists, dicts, sets in it -/
def Ty.imm {α : Type} (T : Ty K α) : Prop := ∀ {a : α} {F F' : Hp} {v : V}, (∀ p o, F p = some o → ¬ Lc o → F' p = some o) → T.rel a F v → T.rel a F' v
def Tys.imm {α : Type} (T : Tys K α) : Prop := ∀ {a : α} {F F' : Hp} {v : List V}, (∀ p o, F p = some o → ¬ Lc o → F' p = some o) → T.rel a F v → T.rel a F' v
theorem imm_sqt {F F' : Hp} {p : Addr} {xs : List V} (h : ∀ p o, F p = some o → ¬ Lc o → F' p = some o) (q : SqT K F p xs) : SqT K F' p xs := by
  rcases q with (q | ⟨o, q⟩) | q
  · exact .inl (.inl (h _ _ q id))
  · exact .inl (.inr ⟨o, h _ _ q id⟩)
  · exact .inr q
theorem imm_int : (yInt (K := K)).imm := fun _ h => h
theorem imm_bl : (yBl (K := K)).imm := fun _ h => h
theorem imm_str : (yStr (K := K)).imm := fun _ h => h
theorem imm_1 {α : Type} {T : Ty K α} (i : T.imm) : (tys1 T).imm := fun h ⟨v, e, r⟩ => ⟨v, e, i h r⟩
theorem imm_C {α β : Type} {T : Ty K α} {U : Tys K β} (i : T.imm) (j : U.imm) : (tysC T U).imm := fun h ⟨v, vs, e, r, q⟩ => ⟨v, vs, e, i h r, j h q⟩
theorem imm_tup {α : Type} {U : Tys K α} (i : U.imm) : (yTup U).imm := fun h ⟨p, xs, e, q, r⟩ => ⟨p, xs, e, imm_sqt h q, i h r⟩
theorem imm_all {α : Type} {T : Ty K α} (i : T.imm) {l : List α} {F F' : Hp} {xs : List V} (h : ∀ p o, F p = some o → ¬ Lc o → F' p = some o) (r : T.all l F xs) : T.all l F' xs := Paired.mapP r fun _ _ => i h
theorem imm_opt {α : Type} {T : Ty K α} (i : T.imm) : (yOpt T).imm := fun {a} _ _ _ h r => by
  cases a with
  | none => exact r
  | some x => exact ⟨i h r.1, r.2⟩
def Ct.imm {α : Type} (C : Ct K α) : Prop := ∀ {a : α} {F F' : Hp} {p : Addr} {o : HO}, (∀ p o, F p = some o → ¬ Lc o → F' p = some o) → C.obj a F p o → C.obj a F' p o
theorem imm_cLst {α : Type} {T : Ty K α} (i : T.imm) : (cLst T).imm := fun h ⟨xs, e, r⟩ => ⟨xs, e, imm_all i h r⟩
/-- a slot is stored -/
theorem getset.{u} {α : Type u} {l : List α} {i j : Nat} {x y : α} (h : (l.set i x)[j]? = some y) : (j = i ∧ y = x) ∨ (j ≠ i ∧ l[j]? = some y) := by
  by_cases e : j = i
  · subst e
    rw [List.getElem?_set] at h
    simp only [if_true] at h
    split at h
    · exact .inl ⟨rfl, (Option.some.inj h).symm⟩
    · cases h
  · rw [List.getElem?_set_ne (Ne.symm e)] at h
    exact .inr ⟨e, h⟩
theorem Sta.setP {α : Type} {T : Ty K α} {a : α} {i : Nat} {v : V} (S : Sta b ρ F σ H) (r : T.rel a F v) : Sta b (ρ.set i (some (.pl T a))) F (σ.set i (some v)) H where
  h0 := S.h0
  tb := S.tb
  nt := S.nt
  f0 := S.f0
  fh := S.fh
  nw := S.nw
  len := by rw [List.length_set, List.length_set]; exact S.len
  sl := fun j s e => by
    rcases getset e with ⟨rfl, q⟩ | ⟨ne, q⟩
    · cases q
      have hj : j < σ.length := by
        have := (List.getElem?_eq_some_iff.mp e).1
        rw [List.length_set] at this
        rw [S.len]; exact this
      exact ⟨v, List.getElem?_set_self hj, r⟩
    · obtain ⟨w, e1, e2⟩ := S.sl j s q
      exact ⟨w, by rw [List.getElem?_set_ne (Ne.symm ne)]; exact e1, e2⟩
  ds := fun j k s t w e1 e2 o1 o2 e3 e4 => by
    rcases getset e1 with ⟨rfl, q⟩ | ⟨n1, q1⟩
    · cases q; cases o1
    · rcases getset e2 with ⟨rfl, q⟩ | ⟨n2, q2⟩
      · cases q; cases o2
      · rw [List.getElem?_set_ne (Ne.symm n1)] at e3
        rw [List.getElem?_set_ne (Ne.symm n2)] at e4
        exact S.ds j k s t w q1 q2 o1 o2 e3 e4
/-- .. with an object that nobody else knows -/
theorem Sta.setO {α : Type} {C : Ct K α} {a : α} {i : Nat} {p : Addr} {o : HO} (S : Sta b ρ F σ H) (hp : H p = some o) (fp : F p = none) (bp : b.H0 p = none) (r : C.obj a F p o)
    (un : ∀ (j : Nat) (s : Slt K), ρ[j]? = some (some s) → s.isOw = true → σ[j]? = some (some (.ref p)) → False) : Sta b (ρ.set i (some (.ow C a))) F (σ.set i (some (.ref p))) H where
  h0 := S.h0
  tb := S.tb
  nt := S.nt
  f0 := S.f0
  fh := S.fh
  nw := S.nw
  len := by rw [List.length_set, List.length_set]; exact S.len
  sl := fun j s e => by
    rcases getset e with ⟨rfl, q⟩ | ⟨ne, q⟩
    · cases q
      have hj : j < σ.length := by
        have := (List.getElem?_eq_some_iff.mp e).1
        rw [List.length_set] at this
        rw [S.len]; exact this
      exact ⟨_, List.getElem?_set_self hj, p, o, rfl, hp, fp, bp, r⟩
    · obtain ⟨w, e1, e2⟩ := S.sl j s q
      exact ⟨w, by rw [List.getElem?_set_ne (Ne.symm ne)]; exact e1, e2⟩
  ds := fun j k s t w e1 e2 o1 o2 e3 e4 => by
    rcases getset e1 with ⟨ej, q⟩ | ⟨n1, q1⟩
    · rcases getset e2 with ⟨ek, q'⟩ | ⟨n2, q2⟩
      · exact ej.trans ek.symm
      · rw [List.getElem?_set_ne (Ne.symm n2)] at e4
        subst ej
        have hj : j < σ.length := by
          have := (List.getElem?_eq_some_iff.mp e1).1
          rw [List.length_set] at this
          rw [S.len]; exact this
        rw [List.getElem?_set_self hj] at e3
        cases e3
        exact (un k t q2 o2 e4).elim
    · rw [List.getElem?_set_ne (Ne.symm n1)] at e3
      rcases getset e2 with ⟨ek, q'⟩ | ⟨n2, q2⟩
      · subst ek
        have hj : k < σ.length := by
          have := (List.getElem?_eq_some_iff.mp e2).1
          rw [List.length_set] at this
          rw [S.len]; exact this
        rw [List.getElem?_set_self hj] at e4
        cases e4
        exact (un j s q1 o1 e3).elim
      · rw [List.getElem?_set_ne (Ne.symm n2)] at e4
        exact S.ds j k s t w q1 q2 o1 o2 e3 e4
theorem Sta.fresh_un {p : Addr} (S : Sta b ρ F σ H) (n : H p = none) : ∀ (j : Nat) (s : Slt K), ρ[j]? = some (some s) → s.isOw = true → σ[j]? = some (some (.ref p)) → False := fun j s e o e2 => by
  obtain ⟨v, e3, a⟩ := S.sl j s e
  rw [e2] at e3; cases e3
  cases s with
  | pl T a' => cases o
  | ow C a' =>
    obtain ⟨q, u, e4, e5, _⟩ := a
    cases e4
    rw [n] at e5; cases e5
/-- slots are forgotten, or a plain one is seen as another type -/
inductive Wk : Ev K → Ev K → Prop
  | nil : Wk [] []
  | keep {s : Option (Slt K)} {ρ ρ' : Ev K} : Wk ρ ρ' → Wk (s :: ρ) (s :: ρ')
  | drop {s : Option (Slt K)} {ρ ρ' : Ev K} : Wk ρ ρ' → Wk (s :: ρ) (none :: ρ')
theorem Wk.refl : ∀ ρ : Ev K, Wk ρ ρ
  | [] => .nil
  | _ :: ρ => .keep (Wk.refl ρ)
theorem Wk.len {ρ ρ' : Ev K} (w : Wk ρ ρ') : ρ.length = ρ'.length := by induction w <;> simp_all
theorem Wk.get {ρ ρ' : Ev K} (w : Wk ρ ρ') : ∀ {i : Nat} {s : Slt K}, ρ'[i]? = some (some s) → ρ[i]? = some (some s) := by
  induction w with
  | nil => intro i s h; exact h
  | keep w ih =>
    intro i s h
    cases i with
    | zero => exact h
    | succ i => exact ih (i := i) h
  | drop w ih =>
    intro i s h
    cases i with
    | zero => simp at h
    | succ i => exact ih (i := i) h
theorem Sta.wk {ρ' : Ev K} (S : Sta b ρ F σ H) (w : Wk ρ ρ') : Sta b ρ' F σ H :=
  ⟨S.h0, S.tb, S.nt, S.f0, S.fh, S.nw, S.len.trans w.len, fun i s e => S.sl i s (w.get e), fun i j s t v e1 e2 => S.ds i j s t v (w.get e1) (w.get e2)⟩
/-- an owned object is given up: it stays as it is from here on -/
def Ct.ty {α : Type} (C : Ct K α) : Ty K α := ⟨fun a F v => ∃ p o, v = .ref p ∧ F p = some o ∧ C.obj a F p o, fun e ⟨p, o, h, q, r⟩ => ⟨p, o, h, e _ _ q, C.mono e r⟩⟩
theorem cLst_ty {α : Type} {T : Ty K α} {a : List α} {F : Hp} {v : V} (h : (cLst T).ty.rel a F v) : (yLst T).rel a F v := by
  obtain ⟨p, o, e, q, xs, rfl, r⟩ := h
  exact ⟨p, xs, e, q, r⟩
theorem Sta.give {α : Type} {C : Ct K α} {a : α} {T : Ty K α} {i : Nat} (S : Sta b ρ F σ H) (hi : ρ[i]? = some (some (.ow C a))) (ht : ∀ {F : Hp} {v : V}, C.ty.rel a F v → T.rel a F v) :
    ∃ F', Same F F' ∧ Sta b (ρ.set i (some (.pl T a))) F' σ H := by
  obtain ⟨v, hv, p, o, rfl, h1, h2, h3, h4⟩ := S.sl i _ hi
  have sf : Same F (upd F p o) := same_upd h2
  refine ⟨upd F p o, sf, S.h0, S.tb, fun q hq => by
    obtain ⟨ps, e, _⟩ := S.tb q hq
    rw [upd_ne fun z => (C.mu h4).nt ps (by rw [z, h1] at e; exact Option.some.inj e)]
    exact S.nt q hq, S.f0.trans sf, fun c u e => ?_, fun c u e e' => ?_, ?_, fun j s e => ?_, fun j k s t w e1 e2 o1 o2 e3 e4 => ?_⟩
  · by_cases hc : c = p
    · subst hc; rw [upd_same] at e; cases e; exact h1
    · rw [upd_ne hc] at e; exact S.fh _ _ e
  · by_cases hc : c = p
    · subst hc; exact h3
    · rw [upd_ne hc] at e; exact S.nw _ _ e e'
  · rw [List.length_set]; exact S.len
  · rcases getset e with ⟨rfl, q⟩ | ⟨ne, q⟩
    · cases q
      exact ⟨_, hv, ht ⟨p, o, rfl, upd_same, C.mono sf h4⟩⟩
    · obtain ⟨w, e1, e2⟩ := S.sl j s q
      refine ⟨w, e1, ?_⟩
      cases s with
      | pl T' a' => exact T'.mono sf e2
      | ow C' a' =>
        obtain ⟨p', o', rfl, q1, q2, q3, q4⟩ := e2
        refine ⟨p', o', rfl, q1, ?_, q3, C'.mono sf q4⟩
        rw [upd_ne]
        · exact q2
        · rintro rfl
          exact ne (S.ds j i _ _ _ q hi rfl rfl e1 hv)
  · rcases getset e1 with ⟨rfl, q⟩ | ⟨n1, q1⟩
    · cases q; cases o1
    · rcases getset e2 with ⟨rfl, q⟩ | ⟨n2, q2⟩
      · cases q; cases o2
      · exact S.ds j k s t w q1 q2 o1 o2 e3 e4
/-- the object of a slot is changed -/
theorem Sta.change {α β : Type} {C : Ct K α} {a : α} {C' : Ct K β} {a' : β} {i : Nat} {p : Addr} {o' : HO} (S : Sta b ρ F σ H) (hi : ρ[i]? = some (some (.ow C a))) (hv : σ[i]? = some (some (.ref p))) (r : C'.obj a' F p o') :
    Sta b (ρ.set i (some (.ow C' a'))) F σ (upd H p o') := by
  obtain ⟨v, hv', q, o, rfl, h1, h2, h3, h4⟩ := S.sl i _ hi
  rw [hv] at hv'; cases hv'
  refine ⟨fun c u e => ?_, S.tb.chg h1 (C.mu h4), S.nt, S.f0, fun c u e => ?_, S.nw, ?_, fun j s e => ?_, fun j k s t w e1 e2 o1 o2 e3 e4 => ?_⟩
  · rw [upd_ne (ne_of_none e h3)]; exact S.h0 _ _ e
  · rw [upd_ne (ne_of_none e h2)]; exact S.fh _ _ e
  · rw [List.length_set]; exact S.len
  · rcases getset e with ⟨rfl, q⟩ | ⟨ne, q⟩
    · cases q
      exact ⟨_, hv, p, o', rfl, upd_same, h2, h3, r⟩
    · obtain ⟨w, e1, e2⟩ := S.sl j s q
      refine ⟨w, e1, ?_⟩
      cases s with
      | pl T' a' => exact e2
      | ow C' a' =>
        obtain ⟨p', o', rfl, q1, q2, q3, q4⟩ := e2
        refine ⟨p', o', rfl, ?_, q2, q3, q4⟩
        rw [upd_ne]
        · exact q1
        · rintro rfl
          exact ne (S.ds j i _ _ _ q hi rfl rfl e1 hv)
  · have fix : ∀ {k : Nat} {s : Slt K}, (ρ.set i (some (Slt.ow C' a')))[k]? = some (some s) → ∃ s', ρ[k]? = some (some s') ∧ (s.isOw = true → s'.isOw = true) := fun {k s} e => by
      rcases getset e with ⟨rfl, q⟩ | ⟨n, q⟩
      · exact ⟨_, hi, fun _ => rfl⟩
      · exact ⟨s, q, id⟩
    obtain ⟨s', q1, z1⟩ := fix e1
    obtain ⟨t', q2, z2⟩ := fix e2
    exact S.ds j k s' t' w q1 q2 (z1 o1) (z2 o2) e3 e4
end
end Cp
namespace Cp
open PySem L2
variable {K : PySem.W.Frag} {ε : Type}
/-- how an error looks: what it is, what is leant on, its class, its dict, the heap -/
structure Ex (ε : Type) where
  rel : ε → Hp → Value → Option Addr → Hp → Prop
  imm : ∀ {e : ε} {F F' : Hp} {cls : Value} {od : Option Addr} {H : Hp}, (∀ p o, F p = some o → ¬ Lc o → F' p = some o) → rel e F cls od H → rel e F' cls od H
/-- what is done with errors: how they look, what is wanted of one, what the slots hold then -/
structure Jc (K : PySem.W.Frag) (ε : Type) where
  EX : Ex ε
  E : St → XK
  eh : Ev K
/-- nothing is let out -/
def Jc.no (J : Jc K ε) : Jc K ε := ⟨J.EX, fun _ _ _ _ => False, J.eh⟩
def Pex (J : Jc K ε) (b : B) (e : ε) : Prop := ∀ F' σ' cls od H', Sta b J.eh F' σ' H' → J.EX.rel e F' cls od H' → (∀ dx, od = some dx → b.H0 dx = none) → J.E σ' cls od H'
/-- growth -/
structure Gr (F H F' H' : Hp) : Prop where
  f : Same F F'
  h : Sm H H'
  n : ∀ p, (∃ o, H p = some o) → F p = none → F' p = none
theorem Gr.refl (F H : Hp) : Gr F H F H := ⟨Same.refl _, Sm.refl _, fun _ _ h => h⟩
theorem Gr.trans {F H F1 H1 F2 H2 : Hp} (a : Gr F H F1 H1) (b : Gr F1 H1 F2 H2) : Gr F H F2 H2 :=
  ⟨a.f.trans b.f, a.h.trans b.h, fun p ⟨o, e⟩ n => b.n p (a.h.dom ⟨o, e⟩) (a.n p ⟨o, e⟩ n)⟩
theorem Gr.sta {b : B} {ρ : Ev K} {F F' : Hp} {σ : St} {H H' : Hp} (g : Gr F H F' H') (S : Sta b ρ F σ H) (tb : Tbs (tabs K) H') (fh : Same F' H') : Sta b ρ F' σ H' := S.grow g.h tb g.f fh g.n
theorem Gr.new {F H : Hp} {p : Addr} {o : HO} (fh : Same F H) (n : H p = none) : Gr F H (upd F p o) (upd H p o) :=
  ⟨same_upd (fh.free n), .of (same_upd n), fun q ⟨u, e⟩ z => by rw [upd_ne (ne_of_none e n)]; exact z⟩
theorem Gr.newH {F H : Hp} {p : Addr} {o : HO} (n : H p = none) : Gr F H F (upd H p o) := ⟨Same.refl _, .of (same_upd n), fun _ _ z => z⟩
open Classical in
noncomputable def Gh (ρ : Ev K) (σ : St) (F H : Hp) : Hp := fun a => match F a with
  | some o => some o
  | none => if ∃ (i : Nat) (s : Slt K), ρ[i]? = some (some s) ∧ s.isOw = true ∧ σ[i]? = some (some (.ref a)) then H a else none
section
variable {b : B} {ρ : Ev K} {F F' : Hp} {σ : St} {H H' : Hp}
theorem Gh.ge : Same F (Gh ρ σ F H) := fun a o e => by unfold Gh; rw [e]
theorem Gh.le (fh : Same F H) : Same (Gh ρ σ F H) H := fun a o e => by
  unfold Gh at e
  cases q : F a with
  | some u => rw [q] at e; exact fh _ _ (q.trans e)
  | none =>
    rw [q] at e
    simp only at e
    split at e
    · exact e
    · cases e
theorem Gh.own {i : Nat} {s : Slt K} {p : Addr} (hi : ρ[i]? = some (some s)) (ho : s.isOw = true) (hs : σ[i]? = some (some (.ref p))) (fp : F p = none) : Gh ρ σ F H p = H p := by
  unfold Gh
  rw [fp]
  simp only
  rw [if_pos ⟨i, s, hi, ho, hs⟩]
theorem Gh.mono (g : Gr F H F' H') (S : Sta b ρ F σ H) : Same (Gh ρ σ F H) (Gh ρ σ F' H') := fun a o e => by
  unfold Gh at e
  cases q : F a with
  | some u =>
    rw [q] at e
    exact Gh.ge _ _ (g.f _ _ (q.trans e))
  | none =>
    rw [q] at e
    simp only at e
    split at e
    case isFalse => cases e
    case isTrue z =>
      obtain ⟨i, s, z1, z2, z3⟩ := z
      rw [Gh.own z1 z2 z3 (g.n _ ⟨o, e⟩ q)]
      refine g.h.at_ e ?_
      obtain ⟨v, y1, y2⟩ := S.sl i s z1
      rw [z3] at y1; cases y1
      cases s with
      | pl T a' => cases z2
      | ow C a' =>
        obtain ⟨p', o', w1, w2, _, _, w5⟩ := y2
        cases w1
        rw [e] at w2; cases w2
        exact (C.mu w5).nt
end
theorem Gh.nt {b : B} {ρ : Ev K} {F : Hp} {σ : St} {H : Hp} (S : Sta b ρ F σ H) : ∀ p ∈ tabs K, Gh ρ σ F H p.1 = none := fun p hp => by
  obtain ⟨ps, e, _⟩ := S.tb p hp
  cases q : Gh ρ σ F H p.1 with
  | none => rfl
  | some o =>
    exfalso
    unfold Gh at q
    rw [S.nt p hp] at q
    simp only at q
    split at q
    case isFalse => cases q
    case isTrue y =>
      obtain ⟨i, s, y1, y2, y3⟩ := y
      obtain ⟨v, y4, y5⟩ := S.sl i s y1
      rw [y3] at y4; cases y4
      cases s with
      | pl T a => cases y2
      | ow C a =>
        obtain ⟨p', o', e1, e2, _, _, e5⟩ := y5
        cases e1
        rw [e] at e2; cases e2
        exact (C.mu e5).nt ps rfl
structure Rk (K : PySem.W.Frag) (α : Type) where
  at_ : Ev K → St → Hp → Hp → Hp → α → V → Prop
  start : ∀ {ρ : Ev K} {σ : St} {H H' F'' H'' : Hp} {a : α} {v : V}, Sm H H' → at_ ρ σ H' F'' H'' a v → at_ ρ σ H F'' H'' a v
/-- data that is leant on, data that is looked at -/
inductive Md where
  | p | b
noncomputable def Md.hp (ρ : Ev K) (σ : St) (F H : Hp) : Md → Hp
  | .p => F
  | .b => Gh ρ σ F H
noncomputable def rV {α : Type} (μ : Md) (T : Ty K α) : Rk K α := ⟨fun ρ σ _ F H a v => T.rel a (μ.hp ρ σ F H) v, fun _ h => h⟩
noncomputable abbrev rP {α : Type} (T : Ty K α) : Rk K α := rV .p T
noncomputable abbrev rB {α : Type} (T : Ty K α) : Rk K α := rV .b T
/-- a new object that nobody else knows -/
def rF {α : Type} (C : Ct K α) : Rk K α := ⟨fun _ _ Hs F H a v => ∃ p o, v = .ref p ∧ Hs p = none ∧ H p = some o ∧ F p = none ∧ C.obj a F p o, fun e ⟨p, o, h1, h2, h⟩ => ⟨p, o, h1, e.free h2, h⟩⟩
section
variable (J : Jc K ε)
def PostE {α : Type} (b : B) (ρ : Ev K) (P : Rk K α) (F : Hp) (σ : St) (H : Hp) (Q : VK) : R ε α → Prop
  | .ok a => ∀ F' v H', Gr F H F' H' → Sta b ρ F' σ H' → P.at_ ρ σ H F' H' a v → Q v H'
  | .exn e => Pex J b e
  | .bad => False
def PostT (b : B) (ρ : Ev K) (F : Hp) (σ : St) (H : Hp) (Q : Bool → Hp → Prop) : R ε Bool → Prop
  | .ok a => ∀ F' H', Gr F H F' H' → Sta b ρ F' σ H' → Q a H'
  | .exn e => Pex J b e
  | .bad => False
def PostA {α : Type} (b : B) (ρ : Ev K) (U : Tys K α) (F : Hp) (σ : St) (H : Hp) (Q : List V → Hp → Prop) : R ε α → Prop
  | .ok a => ∀ F' v H', Gr F H F' H' → Sta b ρ F' σ H' → U.rel a (Gh ρ σ F' H') v → Q v H'
  | .exn e => Pex J b e
  | .bad => False
def Eval {α : Type} (t : TE) (ρ : Ev K) (P : Rk K α) (m : R ε α) : Prop := ∀ (b : B) (F : Hp) (σ : St) (H : Hp) (Q : VK), Sta b ρ F σ H → PostE J b ρ P F σ H Q m → t σ H Q
def EvalT (t : TT) (ρ : Ev K) (m : R ε Bool) : Prop := ∀ (b : B) (F : Hp) (σ : St) (H : Hp) (Q : Bool → Hp → Prop), Sta b ρ F σ H → PostT J b ρ F σ H Q m → t σ H Q
def EvalA {α : Type} (t : TA) (ρ : Ev K) (U : Tys K α) (m : R ε α) : Prop := ∀ (b : B) (F : Hp) (σ : St) (H : Hp) (Q : List V → Hp → Prop), Sta b ρ F σ H → PostA J b ρ U F σ H Q m → t σ H Q
structure DE {α : Type} (X : Cx) (J : Jc X.K ε) (ρ : Ev X.K) (e : Expr) (t : TE) (P : Rk X.K α) (m : R ε α) : Prop where
  pe : PE X e t
  ev : Eval J t ρ P m
structure DT (X : Cx) (J : Jc X.K ε) (ρ : Ev X.K) (e : Expr) (t : TT) (m : R ε Bool) : Prop where
  pt : PT X e t
  ev : EvalT J t ρ m
structure DA {α : Type} (X : Cx) (J : Jc X.K ε) (ρ : Ev X.K) (es : List Expr) (t : TA) (U : Tys X.K α) (m : R ε α) : Prop where
  pa : PA X es t
  ev : EvalA J t ρ U m
end
section
variable {J : Jc K ε} {α β γ : Type} {b : B} {ρ : Ev K} {F F' : Hp} {σ : St} {H H' : Hp} {Q : VK} {P : Rk K α}
theorem PostE.later {m : R ε α} (g : Gr F H F' H') (h : PostE J b ρ P F σ H Q m) : PostE J b ρ P F' σ H' Q m := by
  cases m with
  | ok a => exact fun F'' v H'' g' S r => h F'' v H'' (g.trans g') S (P.start g.h r)
  | exn e => exact h
  | bad => exact h
theorem PostT.later {Q : Bool → Hp → Prop} {m : R ε Bool} (g : Gr F H F' H') (h : PostT J b ρ F σ H Q m) : PostT J b ρ F' σ H' Q m := by
  cases m with
  | ok a => exact fun F'' H'' g' S => h F'' H'' (g.trans g') S
  | exn e => exact h
  | bad => exact h
/-- what comes first -/
theorem Eval.then_ {t : TE} {P' : Rk K β} {m : R ε β} {k : β → R ε α} {R' : VK} (h : Eval J t ρ P' m) (S : Sta b ρ F σ H) (q : PostE J b ρ P F σ H Q (m.bind k))
    (hk : ∀ a F' v H', Gr F H F' H' → Sta b ρ F' σ H' → P'.at_ ρ σ H F' H' a v → PostE J b ρ P F' σ H' Q (k a) → R' v H') : t σ H R' := by
  refine h b F σ H R' S ?_
  cases m with
  | ok a => exact fun F' v H' g S' r => hk a F' v H' g S' r (PostE.later g q)
  | exn e => exact q
  | bad => exact q
theorem Eval.thenT {t : TE} {P' : Rk K β} {m : R ε β} {k : β → R ε Bool} {Q : Bool → Hp → Prop} {R' : VK} (h : Eval J t ρ P' m) (S : Sta b ρ F σ H) (q : PostT J b ρ F σ H Q (m.bind k))
    (hk : ∀ a F' v H', Gr F H F' H' → Sta b ρ F' σ H' → P'.at_ ρ σ H F' H' a v → PostT J b ρ F' σ H' Q (k a) → R' v H') : t σ H R' := by
  refine h b F σ H R' S ?_
  cases m with
  | ok a => exact fun F' v H' g S' r => hk a F' v H' g S' r (PostT.later g q)
  | exn e => exact q
  | bad => exact q
theorem EvalT.then_ {t : TT} {m : R ε Bool} {k : Bool → R ε α} {R' : Bool → Hp → Prop} (h : EvalT J t ρ m) (S : Sta b ρ F σ H) (q : PostE J b ρ P F σ H Q (m.bind k))
    (hk : ∀ a F' H', Gr F H F' H' → Sta b ρ F' σ H' → PostE J b ρ P F' σ H' Q (k a) → R' a H') : t σ H R' := by
  refine h b F σ H R' S ?_
  cases m with
  | ok a => exact fun F' H' g S' => hk a F' H' g S' (PostE.later g q)
  | exn e => exact q
  | bad => exact q
theorem EvalT.thenT {t : TT} {m : R ε Bool} {k : Bool → R ε Bool} {Q R' : Bool → Hp → Prop} (h : EvalT J t ρ m) (S : Sta b ρ F σ H) (q : PostT J b ρ F σ H Q (m.bind k))
    (hk : ∀ a F' H', Gr F H F' H' → Sta b ρ F' σ H' → PostT J b ρ F' σ H' Q (k a) → R' a H') : t σ H R' := by
  refine h b F σ H R' S ?_
  cases m with
  | ok a => exact fun F' H' g S' => hk a F' H' g S' (PostT.later g q)
  | exn e => exact q
  | bad => exact q
theorem EvalA.then_ {t : TA} {U : Tys K β} {m : R ε β} {k : β → R ε α} {R' : List V → Hp → Prop} (h : EvalA J t ρ U m) (S : Sta b ρ F σ H) (q : PostE J b ρ P F σ H Q (m.bind k))
    (hk : ∀ a F' v H', Gr F H F' H' → Sta b ρ F' σ H' → U.rel a (Gh ρ σ F' H') v → PostE J b ρ P F' σ H' Q (k a) → R' v H') : t σ H R' := by
  refine h b F σ H R' S ?_
  cases m with
  | ok a => exact fun F' v H' g S' r => hk a F' v H' g S' r (PostE.later g q)
  | exn e => exact q
  | bad => exact q
theorem PostE.here {a : α} {v : V} (q : PostE J b ρ P F σ H Q (.ok a)) (S : Sta b ρ F σ H) (r : P.at_ ρ σ H F H a v) : Q v H := q F v H (Gr.refl _ _) S r
end
theorem Md.le {b : B} {ρ : Ev K} {F : Hp} {σ : St} {H : Hp} (S : Sta b ρ F σ H) : ∀ μ : Md, Same (μ.hp ρ σ F H) H
  | .p => S.fh
  | .b => Gh.le S.fh
theorem Md.mono {b : B} {ρ : Ev K} {F F' : Hp} {σ : St} {H H' : Hp} (g : Gr F H F' H') (S : Sta b ρ F σ H) : ∀ μ : Md, Same (μ.hp ρ σ F H) (μ.hp ρ σ F' H')
  | .p => g.f
  | .b => Gh.mono g S
theorem Md.gb {ρ : Ev K} {F : Hp} {σ : St} {H : Hp} : ∀ μ : Md, Same (μ.hp ρ σ F H) (Gh ρ σ F H)
  | .p => Gh.ge
  | .b => Same.refl _
section
variable {α β γ : Type} {X : Cx} {J : Jc X.K ε} {ρ : Ev X.K} {e : Expr} {t : TE} {m : R ε α}
theorem PostE.conv {J : Jc K ε} {b : B} {ρ : Ev K} {P : Rk K α} {P' : Rk K β} {F : Hp} {σ : St} {H : Hp} {Q : VK} {m : R ε α} {f : α → β} (q : PostE J b ρ P' F σ H Q (m.bind fun a => .ok (f a)))
    (hc : ∀ {F' H' : Hp} {a : α} {v : V}, Gr F H F' H' → Sta b ρ F' σ H' → P.at_ ρ σ H F' H' a v → ∃ F'', Gr F H F'' H' ∧ Sta b ρ F'' σ H' ∧ P'.at_ ρ σ H F'' H' (f a) v) : PostE J b ρ P F σ H Q m := by
  cases m with
  | ok a => exact fun F' v H' g S' r => let ⟨F'', g', S'', r'⟩ := hc g S' r; q F'' v H' g' S'' r'
  | exn e => exact q
  | bad => exact q
/-- seen as another type -/
theorem DE.as_ {T : Ty X.K α} {U : Ty X.K β} {f : α → β} (h : DE X J ρ e t (rP T) m) (hc : ∀ {a F v}, T.rel a F v → U.rel (f a) F v) : DE X J ρ e t (rP U) (m.bind fun a => .ok (f a)) :=
  ⟨h.pe, fun b F σ H Q S q => h.ev b F σ H Q S (PostE.conv q fun g S' r => ⟨_, g, S', hc r⟩)⟩
theorem DE.cast {P : Rk X.K α} {m m' : R ε α} (h : DE X J ρ e t P m) (hm : m = m') : DE X J ρ e t P m' := hm ▸ h
theorem bindok (m : R ε α) : (m.bind fun a => R.ok a) = m := by cases m <;> rfl
theorem DE.pb {T : Ty X.K α} {μ : Md} (h : DE X J ρ e t (rV μ T) m) : DE X J ρ e t (rB T) m :=
  ⟨h.pe, fun b F σ H Q S q => h.ev b F σ H Q S (PostE.conv (f := id) (by rw [show (m.bind fun a => R.ok (id a)) = m from bindok m]; exact q) fun g S' r => ⟨_, g, S', T.mono (Md.gb μ) r⟩)⟩
/-- a new object is given out -/
theorem give_new {C : Ct K α} {b : B} {ρ : Ev K} {F F' : Hp} {σ : St} {H H' : Hp} {p : Addr} {o : HO} {a : α} (S : Sta b ρ F σ H) (g : Gr F H F' H') (S' : Sta b ρ F' σ H') (n : H p = none) (hp : H' p = some o) (fp : F' p = none) :
    Gr F H (upd F' p o) H' ∧ Sta b ρ (upd F' p o) σ H' := by
  have sf : Same F' (upd F' p o) := same_upd fp
  have fh : Same (upd F' p o) H' := fun c u e => by
    by_cases hc : c = p
    · subst hc; rw [upd_same] at e; cases e; exact hp
    · rw [upd_ne hc] at e; exact S'.fh _ _ e
  have g' : Gr F H (upd F' p o) H' := ⟨g.f.trans sf, g.h, fun q ⟨u, e⟩ z => by rw [upd_ne (ne_of_none e n)]; exact g.n q ⟨u, e⟩ z⟩
  exact ⟨g', g'.sta S S'.tb fh⟩
theorem DE.fp {C : Ct X.K α} {T : Ty X.K α} (h : DE X J ρ e t (rF C) m) (hc : ∀ {a F v}, C.ty.rel a F v → T.rel a F v) : DE X J ρ e t (rP T) m :=
  ⟨h.pe, fun b F σ H Q S q => h.ev b F σ H Q S (PostE.conv (f := id) (by rw [show (m.bind fun a => R.ok (id a)) = m from bindok m]; exact q) fun {F' H' a v} g S' r => by
    obtain ⟨p, o, rfl, n, hp, fp, r⟩ := r
    obtain ⟨g', S''⟩ := give_new (C := C) (a := a) S g S' n hp fp
    exact ⟨_, g', S'', hc ⟨p, o, rfl, upd_same, C.mono (same_upd fp) r⟩⟩)⟩
theorem DE.fpL {T : Ty X.K α} {m : R ε (List α)} (h : DE X J ρ e t (rF (cLst T)) m) : DE X J ρ e t (rP (yLst T)) m := h.fp cLst_ty
/-- names -/
theorem de_var {T : Ty X.K α} {a : α} {i : Nat} (hp : PE X e (tVar i)) (hi : ρ[i]? = some (some (.pl T a))) : DE X J ρ e (tVar i) (rP T) (.ok a) :=
  ⟨hp, fun b F σ H Q S q => by
    obtain ⟨v, e1, r⟩ := S.sl i _ hi
    exact ⟨v, e1, PostE.here q S r⟩⟩
theorem de_own {C : Ct X.K α} {T : Ty X.K α} {a : α} {i : Nat} (hp : PE X e (tVar i)) (hi : ρ[i]? = some (some (.ow C a))) (hc : ∀ {a F v}, C.ty.rel a F v → T.rel a F v) : DE X J ρ e (tVar i) (rB T) (.ok a) :=
  ⟨hp, fun b F σ H Q S q => by
    obtain ⟨v, e1, p, o, rfl, r1, r2, r3, r4⟩ := S.sl i _ hi
    exact ⟨_, e1, PostE.here q S (hc ⟨p, o, rfl, (Gh.own hi rfl e1 r2).trans r1, C.mono Gh.ge r4⟩)⟩⟩
theorem de_ownL {T : Ty X.K α} {a : List α} {i : Nat} (hp : PE X e (tVar i)) (hi : ρ[i]? = some (some (.ow (cLst T) a))) : DE X J ρ e (tVar i) (rB (yLst T)) (.ok a) := de_own hp hi cLst_ty
/-- constants -/
theorem de_c {T : Ty X.K α} {a : α} {v : V} (hp : PE X e (tC v)) (h : ∀ F, T.rel a F v) : DE X J ρ e (tC v) (rP T) (.ok a) := ⟨hp, fun b F σ H Q S q => PostE.here q S (h F)⟩
end
section
variable {α β γ : Type} {X : Cx} {J : Jc X.K ε} {ρ : Ev X.K} {e e' : Expr} {t t' : TE} {pos : Pos}
theorem Eval.op2 {J : Jc K ε} {μ ν : Md} {T : Ty K α} {U : Ty K β} {P : Rk K γ} {ρ : Ev K} {ta tb : TE} {ma : R ε α} {mb : R ε β} {r : R2} {f : α → β → R ε γ} (ha : Eval J ta ρ (rV μ T) ma) (hb : Eval J tb ρ (rV ν U) mb)
    (hr : ∀ (b : B) (F : Hp) (σ : St) (H : Hp) (x : α) (y : β) (v w : V) (Q : VK), Sta b ρ F σ H → T.rel x (μ.hp ρ σ F H) v → U.rel y (ν.hp ρ σ F H) w → PostE J b ρ P F σ H Q (f x y) → r v w H Q) :
    Eval J (tOp r ta tb) ρ P (ma.bind fun x => mb.bind fun y => f x y) := fun b F σ H Q S q =>
  ha.then_ S q fun x F1 v H1 g1 S1 r1 q1 => hb.then_ S1 q1 fun y F2 w H2 g2 S2 r2 q2 => hr b F2 σ H2 x y v w Q S2 (T.mono (Md.mono g2 S1 μ) r1) r2 q2
theorem Eval.op1 {J : Jc K ε} {μ : Md} {T : Ty K α} {P : Rk K γ} {ρ : Ev K} {ta : TE} {ma : R ε α} {r : V → Hp → VK → Prop} {f : α → R ε γ} (ha : Eval J ta ρ (rV μ T) ma)
    (hr : ∀ (b : B) (F : Hp) (σ : St) (H : Hp) (x : α) (v : V) (Q : VK), Sta b ρ F σ H → T.rel x (μ.hp ρ σ F H) v → PostE J b ρ P F σ H Q (f x) → r v H Q) :
    Eval J (tUn r ta) ρ P (ma.bind fun x => f x) := fun b F σ H Q S q => ha.then_ S q fun x F1 v H1 g1 S1 r1 q1 => hr b F1 σ H1 x v Q S1 r1 q1
/-- an operation of two ints -/
theorem de_i2 {op : Operator} {C : Int → Int → Prop} {g : Int → Int → V} {T : Ty X.K γ} {f : Int → Int → R ε γ} {ma mb : R ε Int} {μ ν : Md} (ho : OpR X (binaryOp op) (rI C g))
    (hf : ∀ i j, (∃ c, f i j = .ok c ∧ C i j ∧ ∀ F, T.rel c F (g i j)) ∨ f i j = .bad) (ha : DE X J ρ e t (rV μ yInt) ma) (hb : DE X J ρ e' t' (rV ν yInt) mb) :
    DE X J ρ (.BinOp e op e' pos) (tOp (rI C g) t t') (rP T) (ma.bind fun i => mb.bind fun j => f i j) :=
  ⟨pe_op ho ha.pe hb.pe, ha.ev.op2 hb.ev fun b F σ H x y v w Q S r1 r2 q => by
    cases r1; cases r2
    rcases hf x y with ⟨c, e1, e2, e3⟩ | e1
    · rw [e1] at q
      exact ⟨x, y, rfl, rfl, e2, PostE.here q S (e3 F)⟩
    · rw [e1] at q; exact q.elim⟩
theorem de_i20 {op : Operator} {g : Int → Int → Int} {ma mb : R ε Int} {μ ν : Md} (ho : OpR X (binaryOp op) (rI0 fun i j => .int (g i j))) (ha : DE X J ρ e t (rV μ yInt) ma) (hb : DE X J ρ e' t' (rV ν yInt) mb) :
    DE X J ρ (.BinOp e op e' pos) (tOp (rI0 fun i j => .int (g i j)) t t') (rP yInt) (ma.bind fun i => mb.bind fun j => .ok (g i j)) :=
  ⟨pe_op ho ha.pe hb.pe, ha.ev.op2 hb.ev fun b F σ H x y v w Q S r1 r2 q => by
    cases r1; cases r2
    exact ⟨x, y, rfl, rfl, PostE.here q S rfl⟩⟩
theorem de_add {ma mb : R ε Int} {μ ν : Md} (ha : DE X J ρ e t (rV μ yInt) ma) (hb : DE X J ρ e' t' (rV ν yInt) mb) : DE X J ρ (.BinOp e .Add e' pos) (tOp (rI0 fun i j => .int (i + j)) t t') (rP yInt) (ma.bind fun i => mb.bind fun j => .ok (i + j)) := de_i20 op_add ha hb
theorem de_sub {ma mb : R ε Int} {μ ν : Md} (ha : DE X J ρ e t (rV μ yInt) ma) (hb : DE X J ρ e' t' (rV ν yInt) mb) : DE X J ρ (.BinOp e .Sub e' pos) (tOp (rI0 fun i j => .int (i - j)) t t') (rP yInt) (ma.bind fun i => mb.bind fun j => .ok (i - j)) := de_i20 op_sub ha hb
/-- a product, one factor below 2^64 -/
def rMul (i j : Int) : R ε Int := if (-(2 ^ 64) < i ∧ i < 2 ^ 64) ∨ (-(2 ^ 64) < j ∧ j < 2 ^ 64) then .ok (i * j) else .bad
def rDiv (i j : Int) : R ε Int := if 0 < j ∧ j < 1073741824 then .ok (i / j) else .bad
def rMod (i j : Int) : R ε Int := if 0 < j then .ok (i % j) else .bad
def rPow (i j : Int) : R ε Int := if 0 ≤ j ∧ j ≤ 1000000 ∧ i.natAbs < 2 ^ 64 then .ok (i ^ j.toNat) else .bad
theorem if_or {p : Prop} [Decidable p] {c : γ} {T : Prop} (h : p → T) : (∃ d, (if p then (R.ok c : R ε γ) else .bad) = .ok d ∧ d = c ∧ T) ∨ (if p then (R.ok c : R ε γ) else .bad) = .bad := by
  by_cases hp : p
  · rw [if_pos hp]; exact .inl ⟨c, rfl, rfl, h hp⟩
  · rw [if_neg hp]; exact .inr rfl
theorem de_mul {ma mb : R ε Int} {μ ν : Md} (ha : DE X J ρ e t (rV μ yInt) ma) (hb : DE X J ρ e' t' (rV ν yInt) mb) : DE X J ρ (.BinOp e .Mult e' pos) (tOp (rI CMul fun i j => .int (i * j)) t t') (rP yInt) (ma.bind fun i => mb.bind fun j => rMul i j) :=
  de_i2 op_mul (fun i j => (if_or fun h => h).imp (fun ⟨d, e1, e2, e3⟩ => ⟨d, e1, e3, fun _ => by subst e2; rfl⟩) id) ha hb
theorem de_div {ma mb : R ε Int} {μ ν : Md} (ha : DE X J ρ e t (rV μ yInt) ma) (hb : DE X J ρ e' t' (rV ν yInt) mb) : DE X J ρ (.BinOp e .FloorDiv e' pos) (tOp (rI CDiv fun i j => .int (i / j)) t t') (rP yInt) (ma.bind fun i => mb.bind fun j => rDiv i j) :=
  de_i2 op_fdiv (fun i j => (if_or fun h => h).imp (fun ⟨d, e1, e2, e3⟩ => ⟨d, e1, e3, fun _ => by subst e2; rfl⟩) id) ha hb
theorem de_mod {ma mb : R ε Int} {μ ν : Md} (ha : DE X J ρ e t (rV μ yInt) ma) (hb : DE X J ρ e' t' (rV ν yInt) mb) : DE X J ρ (.BinOp e .Mod e' pos) (tOp (rI (fun _ j => 0 < j) fun i j => .int (i % j)) t t') (rP yInt) (ma.bind fun i => mb.bind fun j => rMod i j) :=
  de_i2 op_mod (fun i j => (if_or fun h => h).imp (fun ⟨d, e1, e2, e3⟩ => ⟨d, e1, e3, fun _ => by subst e2; rfl⟩) id) ha hb
theorem de_pow {ma mb : R ε Int} {μ ν : Md} (ha : DE X J ρ e t (rV μ yInt) ma) (hb : DE X J ρ e' t' (rV ν yInt) mb) : DE X J ρ (.BinOp e .Pow e' pos) (tOp (rI CPow fun i j => .int (i ^ j.toNat)) t t') (rP yInt) (ma.bind fun i => mb.bind fun j => rPow i j) :=
  de_i2 op_pow (fun i j => (if_or fun h => h).imp (fun ⟨d, e1, e2, e3⟩ => ⟨d, e1, e3, fun _ => by subst e2; rfl⟩) id) ha hb
theorem de_neg {ma : R ε Int} {μ : Md} (ha : DE X J ρ e t (rV μ yInt) ma) : DE X J ρ (.UnaryOp .USub e pos) (tUn (rU fun i => .int (-i)) t) (rP yInt) (ma.bind fun i => .ok (-i)) :=
  ⟨pe_un un_neg ha.pe, ha.ev.op1 fun b F σ H x v Q S r1 q => by cases r1; exact ⟨x, rfl, PostE.here q S rfl⟩⟩
/-- an expression that gives a bool, as a value and as a test -/
structure DQ (X : Cx) (J : Jc X.K ε) (ρ : Ev X.K) (e : Expr) (t : TE) (m : R ε Bool) : Prop where
  pe : PE X e t
  pt : PT X e (tTest t)
  ev : Eval J t ρ (rP yBl) m
theorem DQ.de {m : R ε Bool} (h : DQ X J ρ e t m) : DE X J ρ e t (rP yBl) m := ⟨h.pe, h.ev⟩
/-- comparisons as values and as tests -/
theorem dq_cmp {op : CmpOp} {r : R2} {T : Ty X.K α} {U : Ty X.K β} {ma : R ε α} {mb : R ε β} {f : α → β → R ε Bool} {μ ν : Md} (ho : OpR X (compareOp op) r) (hm : behindInMarks op e' = false) (ha : DE X J ρ e t (rV μ T) ma) (hb : DE X J ρ e' t' (rV ν U) mb)
    (hr : ∀ (b : B) (F : Hp) (σ : St) (H : Hp) (x : α) (y : β) (v w : V) (Q : VK), Sta b ρ F σ H → T.rel x (μ.hp ρ σ F H) v → U.rel y (ν.hp ρ σ F H) w → PostE J b ρ (rP yBl) F σ H Q (f x y) → r v w H Q) :
    DQ X J ρ (.Compare e [op] [e'] pos) (tOp r t t') (ma.bind fun x => mb.bind fun y => f x y) := ⟨pe_cmpR ho ha.pe hb.pe hm, pt_cmpR ho ha.pe hb.pe hm, ha.ev.op2 hb.ev hr⟩
/-- an expression that gives a bool, as a test -/
theorem EvalT.of {J : Jc K ε} {t : TE} {ρ : Ev K} {m : R ε Bool} (h : Eval J t ρ (rP yBl) m) : EvalT J (tTest t) ρ m := fun b F σ H Q S q => by
  refine h b F σ H _ S ?_
  cases m with
  | ok a => exact fun F' v H' g S' r => ⟨a, r, q F' H' g S'⟩
  | exn e => exact q
  | bad => exact q
theorem dt_val {m : R ε Bool} (h : DE X J ρ e t (rP yBl) m) (he : ∀ whole, isTrue e X.env whole = (do let v ← whole; standAt e.pos; holding [v] (truthy v)) := by intro _; rfl) : DT X J ρ e (tB t) m :=
  ⟨pt_val h.pe he, EvalT.of h.ev⟩
theorem DQ.dt {m : R ε Bool} (h : DQ X J ρ e t m) : DT X J ρ e (tTest t) m := ⟨h.pt, EvalT.of h.ev⟩
theorem dq_val {m : R ε Bool} (h : DE X J ρ e t (rP yBl) m) (he : ∀ whole, isTrue e X.env whole = (do let v ← whole; standAt e.pos; holding [v] (truthy v)) := by intro _; rfl) : DQ X J ρ e t m := ⟨h.pe, pt_val h.pe he, h.ev⟩
end
end Cp
namespace Cp
open PySem L2
variable {K : PySem.W.Frag} {ε : Type}
/-- what a block comes to -/
abbrev Rr := B → Hp → Hp → V → Prop
inductive Oc (K : PySem.W.Frag) : Type 1 where
  | nx (ρ : Ev K) | ct (ρ : Ev K) | nc (ρ : Ev K) | bk (ρ : Ev K) | rt (P : Rr) | no
def Oc.noNx : Oc K → Oc K
  | .nx _ => .no
  | .nc ρ => .ct ρ
  | o => o
def Oc.Post (b : B) (F : Hp) (D : Ends) : Oc K → Prop
  | .nx ρ => ∀ F' σ' H', Same F F' → Sta b ρ F' σ' H' → D.nx σ' H'
  | .ct ρ => ∀ F' σ' H', Same F F' → Sta b ρ F' σ' H' → D.ct σ' H'
  | .nc ρ => (∀ F' σ' H', Same F F' → Sta b ρ F' σ' H' → D.nx σ' H') ∧ ∀ F' σ' H', Same F F' → Sta b ρ F' σ' H' → D.ct σ' H'
  | .bk ρ => ∀ F' σ' H', Same F F' → Sta b ρ F' σ' H' → D.bk σ' H'
  | .rt P => ∀ F' v H', Same b.F0 F' → Sm b.H0 H' → Tbs (tabs K) H' → Same F' H' → Nw b F' → P b F' H' v → D.rt v H'
  | .no => False
section
variable (J : Jc K ε)
def PostS {τ : Type} (b : B) (F : Hp) (D : Ends) (I : τ → Oc K) : R ε τ → Prop
  | .ok a => (I a).Post b F D
  | .exn e => Pex J b e
  | .bad => False
def EvalS {τ : Type} (t : TS) (ρ : Ev K) (I : τ → Oc K) (m : R ε τ) : Prop := ∀ (b : B) (F : Hp) (σ : St) (H : Hp) (D : Ends), Sta b ρ F σ H → PostS J b F D I m → t D σ H
structure DS1 {τ : Type} (X : Cx) (J : Jc X.K ε) (ρ : Ev X.K) (st : Stmt) (t : TS) (I : τ → Oc X.K) (m : R ε τ) : Prop where
  ps : PS X st t
  ev : EvalS J t ρ I m
structure DS {τ : Type} (X : Cx) (J : Jc X.K ε) (ρ : Ev X.K) (sts : List Stmt) (t : TS) (I : τ → Oc X.K) (m : R ε τ) : Prop where
  ps : PSs X sts t
  ev : EvalS J t ρ I m
end
section
variable {J : Jc K ε} {α β γ τ τ' : Type} {b : B} {ρ ρ' : Ev K} {F F' : Hp} {σ : St} {H H' : Hp} {D : Ends} {I : τ → Oc K}
theorem Oc.Post.later {o : Oc K} (f : Same F F') (h : o.Post b F D) : o.Post b F' D := by
  cases o with
  | nx ρ => exact fun F'' σ' H' g => h F'' σ' H' (f.trans g)
  | ct ρ => exact fun F'' σ' H' g => h F'' σ' H' (f.trans g)
  | nc ρ => exact ⟨fun F'' σ' H' g => h.1 F'' σ' H' (f.trans g), fun F'' σ' H' g => h.2 F'' σ' H' (f.trans g)⟩
  | bk ρ => exact fun F'' σ' H' g => h F'' σ' H' (f.trans g)
  | rt P => exact h
  | no => exact h
theorem PostS.later {m : R ε τ} (f : Same F F') (h : PostS J b F D I m) : PostS J b F' D I m := by
  cases m with
  | ok a => exact Oc.Post.later f h
  | exn e => exact h
  | bad => exact h
theorem Eval.thenS {t : TE} {P' : Rk K β} {m : R ε β} {k : β → R ε τ} {R' : VK} (h : Eval J t ρ P' m) (S : Sta b ρ F σ H) (q : PostS J b F D I (m.bind k))
    (hk : ∀ a F' v H', Gr F H F' H' → Sta b ρ F' σ H' → P'.at_ ρ σ H F' H' a v → PostS J b F' D I (k a) → R' v H') : t σ H R' := by
  refine h b F σ H R' S ?_
  cases m with
  | ok a => exact fun F' v H' g S' r => hk a F' v H' g S' r (PostS.later g.f q)
  | exn e => exact q
  | bad => exact q
theorem EvalT.thenS {t : TT} {m : R ε Bool} {k : Bool → R ε τ} {R' : Bool → Hp → Prop} (h : EvalT J t ρ m) (S : Sta b ρ F σ H) (q : PostS J b F D I (m.bind k))
    (hk : ∀ a F' H', Gr F H F' H' → Sta b ρ F' σ H' → PostS J b F' D I (k a) → R' a H') : t σ H R' := by
  refine h b F σ H R' S ?_
  cases m with
  | ok a => exact fun F' H' g S' => hk a F' H' g S' (PostS.later g.f q)
  | exn e => exact q
  | bad => exact q
end
section
variable {α β γ τ τ' : Type} {X : Cx} {J : Jc X.K ε} {ρ ρ' : Ev X.K} {I : τ → Oc X.K} {pos : Pos} {st : Stmt} {rest : List Stmt} {t u : TS}
theorem ds_nil {c : τ} (hI : I c = .nx ρ' ∨ I c = .nc ρ') (w : Wk ρ ρ') : DS X J ρ [] tNext I (.ok c) :=
  ⟨pss_nil, fun b F σ H D S q => by
    have q : (I c).Post b F D := q
    rcases hI with e | e
    · rw [e] at q; exact q F σ H (Same.refl _) (S.wk w)
    · rw [e] at q; exact q.1 F σ H (Same.refl _) (S.wk w)⟩
theorem ds_break {c : τ} (hI : I c = .bk ρ') (w : Wk ρ ρ') : DS1 X J ρ (.Break pos) tBreak I (.ok c) :=
  ⟨ps_break, fun b F σ H D S q => by
    have q : (I c).Post b F D := q
    rw [hI] at q; exact q F σ H (Same.refl _) (S.wk w)⟩
def qP {α : Type} (T : Ty K α) (a : α) : Rr := fun _ F _ v => T.rel a F v
def qF {α : Type} (C : Ct K α) (a : α) : Rr := fun b F H v => ∃ p o, v = .ref p ∧ H p = some o ∧ F p = none ∧ b.H0 p = none ∧ C.obj a F p o
theorem ds_ret {e : Expr} {te : TE} {T : Ty X.K α} {m : R ε α} {f : α → τ} (h : DE X J ρ e te (rP T) m) (hI : ∀ a, I (f a) = .rt (qP T a)) : DS1 X J ρ (.Return (some e) pos) (tRet te) I (m.bind fun a => .ok (f a)) :=
  ⟨ps_ret h.pe, fun b F σ H D S q => h.ev.thenS S q fun a F' v H' g S' r q' => by
    have q' : (I (f a)).Post b F' D := q'
    rw [hI] at q'
    exact q' F' v H' S'.f0 S'.h0 S'.tb S'.fh S'.nw r⟩
theorem ds_retF {e : Expr} {te : TE} {C : Ct X.K α} {m : R ε α} {f : α → τ} (h : DE X J ρ e te (rF C) m) (hI : ∀ a, I (f a) = .rt (qF C a)) : DS1 X J ρ (.Return (some e) pos) (tRet te) I (m.bind fun a => .ok (f a)) :=
  ⟨ps_ret h.pe, fun b F σ H D S q => h.ev.thenS S q fun a F' v H' g S' r q' => by
    have q' : (I (f a)).Post b F' D := q'
    rw [hI] at q'
    obtain ⟨p, o, rfl, n, hp, fp, r⟩ := r
    exact q' F' _ H' S'.f0 S'.h0 S'.tb S'.fh S'.nw ⟨p, o, rfl, hp, fp, S.h0.free n, r⟩⟩
/-- an own object is handed back -/
theorem ds_retO {e : Expr} {C : Ct X.K α} {a : α} {i : Nat} {c : τ} (hp : PE X e (tVar i)) (hi : ρ[i]? = some (some (.ow C a))) (hI : I c = .rt (qF C a)) : DS1 X J ρ (.Return (some e) pos) (tRet (tVar i)) I (.ok c) :=
  ⟨ps_ret hp, fun b F σ H D S q => by
    have q : (I c).Post b F D := q
    rw [hI] at q
    obtain ⟨v, e1, p, o, rfl, r1, r2, r3, r4⟩ := S.sl i _ hi
    exact ⟨_, e1, q F _ H S.f0 S.h0 S.tb S.fh S.nw ⟨p, o, rfl, r1, r2, r3, r4⟩⟩⟩
theorem ds_one {m : R ε τ} (h : DS1 X J ρ st t I m) : DS X J ρ [st] t I m := ⟨pss_one h.ps, h.ev⟩
/-- a statement that goes on in one way -/
theorem ds_cons [Inhabited α] {ρ1 : α → Ev X.K} {m : R ε α} {k : α → R ε τ} (h : DS1 X J ρ st t (fun a => .nx (ρ1 a)) m) (hr : ∀ a, DS X J (ρ1 a) rest u I (k a)) : DS X J ρ (st :: rest) (tSeq t u) I (m.bind k) :=
  ⟨pss_cons h.ps (hr default).ps, fun b F σ H D S q => h.ev b F σ H _ S (by
    cases m with
    | ok a => exact fun F' σ' H' f S' => (hr a).ev b F' σ' H' D S' (PostS.later f q)
    | exn e => exact q
    | bad => exact q)⟩
/-- a statement that goes on, or leaves -/
def Oc.isNx : Oc K → Bool
  | .nx _ => true
  | _ => false
def ocX {s θ : Type} (eH : s → Ev K) (Z : θ → Oc K) : s ⊕ θ → Oc K
  | .inl a => .nx (eH a)
  | .inr c => Z c
theorem ds_seq [Inhabited α] {ρ1 : α → Ev X.K} {Z : β → Oc X.K} {m : R ε (α ⊕ β)} {f : β → τ} {k : α → R ε τ} (h : DS1 X J ρ st t (ocX ρ1 Z) m) (hr : ∀ a, DS X J (ρ1 a) rest u I (k a)) (hJ : ∀ c, Z c = (I (f c)).noNx ∧ (I (f c)).isNx = false) :
    DS X J ρ (st :: rest) (tSeq t u) I (m.bind fun a => match a with | .inl a => k a | .inr c => .ok (f c)) :=
  ⟨pss_cons h.ps (hr default).ps, fun b F σ H D S q => h.ev b F σ H _ S (by
    cases m with
    | ok a =>
      cases a with
      | inl a => exact fun F' σ' H' g S' => (hr a).ev b F' σ' H' D S' (PostS.later g q)
      | inr c =>
        have q : (I (f c)).Post b F D := q
        obtain ⟨e1, e2⟩ := hJ c
        show (Z c).Post b F _
        rw [e1]
        revert q e2
        generalize I (f c) = o
        intro q e2
        cases o with
        | nx ρ => cases e2
        | ct ρ => exact q
        | nc ρ => exact q.2
        | bk ρ => exact q
        | rt P => exact q
        | no => exact q
    | exn e => exact q
    | bad => exact q)⟩
theorem EvalS.map {J : Jc K ε} {I' : τ' → Oc K} {I : τ → Oc K} {ρ : Ev K} {g : τ → τ'} {m : R ε τ} (h : EvalS J t ρ I m) (hg : ∀ a, I' (g a) = I a) : EvalS J t ρ I' (m.bind fun a => .ok (g a)) := fun b F σ H D S q => h b F σ H D S (by
  cases m with
  | ok a =>
    have q : (I' (g a)).Post b F D := q
    rw [hg] at q; exact q
  | exn e => exact q
  | bad => exact q)
theorem EvalS.unmap {J : Jc K ε} {I' : τ' → Oc K} {I : τ → Oc K} {ρ : Ev K} {g : τ → τ'} {m : R ε τ} (h : EvalS J t ρ I' (m.bind fun a => .ok (g a))) (hg : ∀ a, I' (g a) = I a) : EvalS J t ρ I m := fun b F σ H D S q => h b F σ H D S (by
  cases m with
  | ok a =>
    show (I' (g a)).Post b F D
    rw [hg]; exact q
  | exn e => exact q
  | bad => exact q)
theorem ds_if1 {c : Expr} {tc : TT} {sa sb : List Stmt} {ta tb : TS} {mc : R ε Bool} {m1 m2 : R ε τ} (hc : DT X J ρ c tc mc) (ha : DS X J ρ sa ta I m1) (hb : DS X J ρ sb tb I m2) :
    DS1 X J ρ (.If c sa sb pos) (tIfS tc ta tb) I (mc.bind fun c => if c then m1 else m2) :=
  ⟨ps_if hc.pt ha.ps hb.ps, fun b F σ H D S q => hc.ev.thenS S q fun c F' H' g S' q' => by
    cases c with
    | true => rw [if_pos rfl] at q' ⊢; exact ha.ev b F' σ H' D S' q'
    | false => rw [if_neg Bool.false_ne_true] at q' ⊢; exact hb.ev b F' σ H' D S' q'⟩
/-- the first branch leaves, the rest stands behind -/
theorem Oc.Post.noNx {o : Oc K} {b : B} {F : Hp} {D : Ends} {N : St → Hp → Prop} (e : o.isNx = false) (q : o.Post b F D) : o.noNx.Post b F { D with nx := N } := by
  cases o with
  | nx ρ => cases e
  | ct ρ => exact q
  | nc ρ => exact q.2
  | bk ρ => exact q
  | rt P => exact q
  | no => exact q
theorem ds_iftX {θ : Type} {c : Expr} {tc : TT} {sa : List Stmt} {ta : TS} {mc : R ε Bool} {m1 : R ε θ} {m2 : R ε τ} {f : θ → τ} (hc : DT X J ρ c tc mc) (ha : DS X J ρ sa ta (fun a => (I (f a)).noNx) m1) (hn : ∀ a, (I (f a)).isNx = false) (hr : DS X J ρ rest u I m2) :
    DS X J ρ (.If c sa [] pos :: rest) (tSeq (tIfS tc ta tNext) u) I (mc.bind fun c => if c then m1.bind fun a => .ok (f a) else m2) :=
  ⟨pss_cons (ps_if hc.pt ha.ps pss_nil) hr.ps, fun b F σ H D S q => hc.ev.thenS S q fun c F' H' g S' q' => by
    cases c with
    | true =>
      rw [if_pos rfl] at q' ⊢
      refine ha.ev b F' σ H' _ S' ?_
      cases m1 with
      | ok a => exact Oc.Post.noNx (hn a) q'
      | exn e => exact q'
      | bad => exact q'
    | false => rw [if_neg Bool.false_ne_true] at q' ⊢; exact hr.ev b F' σ H' D S' q'⟩
theorem ds_ift {c : Expr} {tc : TT} {sa : List Stmt} {ta : TS} {mc : R ε Bool} {m1 m2 : R ε τ} (hc : DT X J ρ c tc mc) (ha : DS X J ρ sa ta (fun a => (I a).noNx) m1) (hn : ∀ a, (I a).isNx = false) (hr : DS X J ρ rest u I m2) :
    DS X J ρ (.If c sa [] pos :: rest) (tSeq (tIfS tc ta tNext) u) I (mc.bind fun c => if c then m1 else m2) := by
  have h := ds_iftX (f := id) (pos := pos) hc ha hn hr
  rw [show (m1.bind fun a => R.ok (id a)) = m1 from bindok m1] at h
  exact h
def Walks (Jt : It) (T : Ty K α) (l : List α) (F0 : Hp) : Prop := ∀ (i : Nat) (F H : Hp), Same F0 F → Same F H →
  (∀ h : i < l.length, Jt.go i H ∧ ∀ x H', Jt.yld i H x H' → Same H H' ∧ ∃ F', Gr F H F' H' ∧ Same F' H' ∧ T.rel (l[i]) F' x) ∧ (l.length ≤ i → Jt.stop i H)
section
variable (J : Jc K ε)
def PostI (b : B) (ρ : Ev K) (T : Ty K α) (F : Hp) (σ : St) (H : Hp) (Q : It → Hp → Prop) : R ε (List α) → Prop
  | .ok l => ∀ F' H' Jt, Gr F H F' H' → Sta b ρ F' σ H' → Walks Jt T l F' → Q Jt H'
  | .exn e => Pex J b e
  | .bad => False
def EvalI (wi : TI) (ρ : Ev K) (T : Ty K α) (m : R ε (List α)) : Prop := ∀ (b : B) (F : Hp) (σ : St) (H : Hp) (Q : It → Hp → Prop), Sta b ρ F σ H → PostI J b ρ T F σ H Q m → wi σ H Q
structure DI (X : Cx) (J : Jc X.K ε) (ρ : Ev X.K) (tg iter : Expr) (wi : TI) (T : Ty X.K α) (m : R ε (List α)) : Prop where
  pi : PI X tg iter wi
  ev : EvalI J wi ρ T m
  fs : ∀ x, foldedSetIterable iter X.env x = pure x
end
/-- where an item goes -/
structure DG (X : Cx) (ρ : Ev X.K) (tg : Expr) (g : TG) (T : Ty X.K α) (ρ' : α → Ev X.K) (ix : List Nat) : Prop where
  pg : PG X tg g
  ev : ∀ (b : B) (F : Hp) (σ : St) (H : Hp) (v : V) (a : α) (Q : St → Hp → Prop), Sta b ρ F σ H → T.rel a F v → (∀ σ', σ'.length = σ.length → (∀ j, j ∉ ix → σ'[j]? = σ[j]?) → Sta b (ρ' a) F σ' H → Q σ' H) → g v σ H Q
  kp : ∀ (a : α) (j : Nat), j ∉ ix → (ρ' a)[j]? = ρ[j]?
  pl : ∀ (a : α) (j : Nat) (s : Slt X.K), j ∈ ix → (ρ' a)[j]? = some (some s) → s.isOw = false
theorem kp_seq {ρ ρ1 ρ2 : Ev K} {ix ix' : List Nat} (h : ∀ j, j ∉ ix → ρ1[j]? = ρ[j]?) (h' : ∀ j, j ∉ ix' → ρ2[j]? = ρ1[j]?) : ∀ j, j ∉ ix ++ ix' → ρ2[j]? = ρ[j]? := fun j hj => (h' j fun z => hj (List.mem_append_right _ z)).trans (h j fun z => hj (List.mem_append_left _ z))
theorem pl_seq {ρ1 ρ2 : Ev K} {ix ix' : List Nat} (h : ∀ (j : Nat) (s : Slt K), j ∈ ix → ρ1[j]? = some (some s) → s.isOw = false) (k' : ∀ j, j ∉ ix' → ρ2[j]? = ρ1[j]?) (h' : ∀ (j : Nat) (s : Slt K), j ∈ ix' → ρ2[j]? = some (some s) → s.isOw = false) : ∀ (j : Nat) (s : Slt K), j ∈ ix ++ ix' → ρ2[j]? = some (some s) → s.isOw = false := fun j s hj e => by
  by_cases z : j ∈ ix'
  · exact h' j s z e
  · rcases List.mem_append.mp hj with q | q
    · exact h j s q ((k' j z).symm.trans e)
    · exact (z q).elim
theorem dg_name {tg : Expr} {i : Nat} {T : Ty X.K α} (h : PG X tg (gName i)) : DG X ρ tg (gName i) T (fun a => ρ.set i (some (.pl T a))) [i] :=
  ⟨h, fun b F σ H v a Q S r q => q _ (List.length_set ..) (fun j hj => List.getElem?_set_ne (fun e => hj (by rw [e]; exact List.mem_singleton.mpr rfl))) (S.setP r), fun a j hj => List.getElem?_set_ne fun e => hj (by rw [e]; exact List.mem_singleton.mpr rfl), fun a j s hj e => by
    rcases getset e with ⟨_, q⟩ | ⟨n, _⟩
    · cases q; rfl
    · exact (n (List.mem_singleton.mp hj)).elim⟩
inductive Lp (s θ : Type) where
  | next (a : s) | brk (a : s) | exit (c : θ)
def forL {s θ : Type} (f : α → s → R ε (Lp s θ)) : List α → s → R ε (s ⊕ θ)
  | [], a => .ok (.inl a)
  | x :: l, a => (f x a).bind fun
    | .next a' => forL f l a'
    | .brk a' => .ok (.inl a')
    | .exit c => .ok (.inr c)
/-- a statement that goes on or leaves; a turn; a turn that may break -/
def ocN {s θ : Type} (eH : s → Ev K) (Z : θ → Oc K) : s ⊕ θ → Oc K
  | .inl a => .nc (eH a)
  | .inr c => Z c
def ocB {s : Type} (eH : s → Ev K) : s ⊕ s → Oc K
  | .inl a => .nc (eH a)
  | .inr a => .bk (eH a)
def zE : Empty → Oc K := fun c => nomatch c
def Lp.oc {s θ : Type} (eH : s → Ev K) (Z : θ → Oc K) : Lp s θ → Oc K
  | .next a => .nc (eH a)
  | .brk a => .bk (eH a)
  | .exit c => (Z c).noNx
theorem ds_for {s θ : Type} [Inhabited s] [Inhabited α] {tg iter : Expr} {wi : TI} {T : Ty X.K α} {g : TG} {tb : TS} {body : List Stmt} {ml : R ε (List α)} {eH : s → Ev X.K} {eB : s → α → Ev X.K} {ix : List Nat} {Z : θ → Oc X.K} {f : α → s → R ε (Lp s θ)} {a0 : s}
    (hp : PassesOwn (model X.prog X.w) X.A X.env X.xe) (hc : X.calm = true) (hi : DI X J ρ tg iter wi T ml) (w : Wk ρ (eH a0)) (hg : ∀ a, DG X (eH a) tg g T (eB a) ix) (hJ : ∀ c, ∃ P, Z c = .rt P)
    (hb : ∀ a x, DS X J (eB a x) body tb (Lp.oc eH Z) (f x a)) :
    DS1 X J ρ (.For tg iter body [] pos) (tFor wi g tb) (ocX eH Z) (ml.bind fun l => forL f l a0) :=
  ⟨ps_for hp hc hi.pi (hg default).pg (hb default default).ps hi.fs, fun b F σ H D S q => hi.ev b F σ H _ S (by
    cases ml with
    | exn e => exact q
    | bad => exact q
    | ok l =>
      intro F1 H1 It1 g1 S1 wk
      have q1 := PostS.later g1.f q
      have q1 : PostS J b F1 D _ (forL f l a0) := q1
      clear q S
      -- the invariant: behind i items the state is a
      refine ⟨fun i m σ H => m = l.length - i ∧ i ≤ l.length ∧ ∃ F a, Same F1 F ∧ Sta b (eH a) F σ H ∧ PostS J b F D (ocX eH Z) (forL f (l.drop i) a), ⟨_, rfl, Nat.zero_le _, F1, a0, Same.refl _, S1.wk w, q1⟩, ?_⟩
      rintro i m σ2 H2 ⟨rfl, hil, F2, a, sf, S2, q2⟩
      obtain ⟨wgo, wst⟩ := wk i F2 H2 sf S2.fh
      by_cases hlt : i < l.length
      · obtain ⟨go, yld⟩ := wgo hlt
        rw [List.drop_eq_getElem_cons hlt] at q2
        refine .inr ⟨go, fun σ' H' => ∃ F' a', Same F1 F' ∧ Sta b (eH a') F' σ' H' ∧ PostS J b F' D (ocX eH Z) (forL f (l.drop (i + 1)) a'), fun σ' H' ⟨F', a', h1, h2, h3⟩ => ⟨l.length - (i + 1), by omega, rfl, hlt, F', a', h1, h2, h3⟩, fun x H' y => ?_⟩
        obtain ⟨sy, F3, g3, fh3, r3⟩ := yld x H' y
        have S3 := g3.sta S2 (S2.tb.ext sy) fh3
        have q3 := PostS.later g3.f q2
        refine (hg a).ev b F3 σ2 H' x _ _ S3 r3 fun σ4 _ _ S4 => ?_
        refine (hb a _).ev b F3 σ4 H' _ S4 ?_
        unfold forL at q3
        revert q3
        generalize f l[i] a = mf
        intro q3
        cases mf with
        | exn e => exact q3
        | bad => exact q3
        | ok r =>
          cases r with
          | next a' => exact ⟨fun F' σ' H' sf' S' => ⟨F', a', (sf.trans g3.f).trans sf', S', PostS.later sf' q3⟩, fun F' σ' H' sf' S' => ⟨F', a', (sf.trans g3.f).trans sf', S', PostS.later sf' q3⟩⟩
          | brk a' => exact q3
          | exit c =>
            obtain ⟨P, hP⟩ := hJ c
            have q3 : (Z c).Post b F3 D := q3
            show (Z c).noNx.Post b F3 _
            rw [hP] at q3 ⊢
            exact q3
      · have e : i = l.length := by omega
        subst e
        rw [List.drop_length] at q2
        refine .inl ⟨wst (Nat.le_refl _), ?_⟩
        exact q2 F2 σ2 H2 (Same.refl _) S2)⟩
end
end Cp
namespace Cp
open PySem PySem.Spec L2
open PyProof.Rows hiding St
variable {K : PySem.W.Frag} {ε : Type}
section
variable {α β γ τ τ' s θ : Type} {X : Cx} {J : Jc X.K ε} {ρ ρ' : Ev X.K} {I : τ → Oc X.K} {pos : Pos} {st : Stmt} {rest : List Stmt} {t u : TS}
theorem DS.map {I' : τ' → Oc X.K} {I : τ → Oc X.K} {sts : List Stmt} {g : τ → τ'} {m : R ε τ} (h : DS X J ρ sts t I m) (hg : ∀ a, I' (g a) = I a) : DS X J ρ sts t I' (m.bind fun a => .ok (g a)) := ⟨h.ps, EvalS.map h.ev hg⟩
theorem DS.cast {sts : List Stmt} {m m' : R ε τ} (h : DS X J ρ sts t I m) (e : m = m') : DS X J ρ sts t I m' := e ▸ h
theorem DS1.cast {m m' : R ε τ} (h : DS1 X J ρ st t I m) (e : m = m') : DS1 X J ρ st t I m' := e ▸ h
/-- a loop that goes through -/
def forS (f : α → s → R ε s) : List α → s → R ε s
  | [], a => .ok a
  | x :: l, a => (f x a).bind fun a' => forS f l a'
/-- a loop that may break -/
def forB (f : α → s → R ε (s ⊕ s)) : List α → s → R ε s
  | [], a => .ok a
  | x :: l, a => (f x a).bind fun
    | .inl a' => forB f l a'
    | .inr a' => .ok a'
/-- a loop that may leave the def -/
def forX (f : α → s → R ε (s ⊕ θ)) : List α → s → R ε (s ⊕ θ)
  | [], a => .ok (.inl a)
  | x :: l, a => (f x a).bind fun
    | .inl a' => forX f l a'
    | .inr c => .ok (.inr c)
theorem forS_L (f : α → s → R ε s) : ∀ (l : List α) (a : s), (forL (θ := Empty) (fun x a => (f x a).bind fun a => .ok (.next a)) l a) = (forS f l a).bind fun a => .ok (.inl a)
  | [], a => rfl
  | x :: l, a => by
    unfold forL forS
    cases f x a with
    | ok a' => exact forS_L f l a'
    | exn e => rfl
    | bad => rfl
def b2L : s ⊕ s → Lp s Empty
  | .inl a => .next a
  | .inr a => .brk a
theorem forB_L (f : α → s → R ε (s ⊕ s)) : ∀ (l : List α) (a : s), (forL (θ := Empty) (fun x a => (f x a).bind fun a => .ok (b2L a)) l a) = (forB f l a).bind fun a => .ok (.inl a)
  | [], a => rfl
  | x :: l, a => by
    unfold forL forB
    cases f x a with
    | ok a' =>
      cases a' with
      | inl a' => exact forB_L f l a'
      | inr a' => rfl
    | exn e => rfl
    | bad => rfl
def x2L : s ⊕ θ → Lp s θ
  | .inl a => .next a
  | .inr a => .exit a
theorem forX_L (f : α → s → R ε (s ⊕ θ)) : ∀ (l : List α) (a : s), (forL (θ := θ) (fun x a => (f x a).bind fun a => .ok (x2L a)) l a) = forX f l a
  | [], a => rfl
  | x :: l, a => by
    unfold forL forX
    cases f x a with
    | ok a' =>
      cases a' with
      | inl a' => exact forX_L f l a'
      | inr a' => rfl
    | exn e => rfl
    | bad => rfl
variable {tg iter : Expr} {wi : TI} {T : Ty X.K α} {g : TG} {tb : TS} {body : List Stmt} {ml : R ε (List α)} {eH : s → Ev X.K} {eB : s → α → Ev X.K} {a0 : s} {ix : List Nat}
theorem ds_forS [Inhabited s] [Inhabited α] {f : α → s → R ε s} (hp : PassesOwn (model X.prog X.w) X.A X.env X.xe) (hc : X.calm = true) (hi : DI X J ρ tg iter wi T ml) (w : Wk ρ (eH a0)) (hg : ∀ a, DG X (eH a) tg g T (eB a) ix)
    (hb : ∀ a x, DS X J (eB a x) body tb (fun a => .nc (eH a)) (f x a)) : DS1 X J ρ (.For tg iter body [] pos) (tFor wi g tb) (fun a => .nx (eH a)) (ml.bind fun l => forS f l a0) := by
  have h := ds_for (θ := Empty) (Z := zE) (pos := pos) (f := fun x a => (f x a).bind fun a => .ok (.next a)) hp hc hi w hg (fun c => nomatch c) (fun a x => (hb a x).map (I' := Lp.oc eH _) (g := Lp.next) fun a => rfl)
  refine ⟨h.ps, EvalS.unmap (I' := ocX eH zE) (g := Sum.inl) ?_ fun a => rfl⟩
  have e : ((ml.bind fun l => forS f l a0).bind fun a => R.ok (Sum.inl a)) = ml.bind fun l => forL (θ := Empty) (fun x a => (f x a).bind fun a => .ok (.next a)) l a0 := by
    cases ml with
    | ok l => exact (forS_L f l a0).symm
    | exn e => rfl
    | bad => rfl
  rw [e]
  exact h.ev
theorem ds_forB [Inhabited s] [Inhabited α] {f : α → s → R ε (s ⊕ s)} (hp : PassesOwn (model X.prog X.w) X.A X.env X.xe) (hc : X.calm = true) (hi : DI X J ρ tg iter wi T ml) (w : Wk ρ (eH a0)) (hg : ∀ a, DG X (eH a) tg g T (eB a) ix)
    (hb : ∀ a x, DS X J (eB a x) body tb (ocB eH) (f x a)) : DS1 X J ρ (.For tg iter body [] pos) (tFor wi g tb) (fun a => .nx (eH a)) (ml.bind fun l => forB f l a0) := by
  have h := ds_for (θ := Empty) (Z := zE) (pos := pos) (f := fun x a => (f x a).bind fun a => .ok (b2L a)) hp hc hi w hg (fun c => nomatch c) (fun a x => (hb a x).map (I' := Lp.oc eH _) (g := b2L) fun a => by cases a <;> rfl)
  refine ⟨h.ps, EvalS.unmap (I' := ocX eH zE) (g := Sum.inl) ?_ fun a => rfl⟩
  have e : ((ml.bind fun l => forB f l a0).bind fun a => R.ok (Sum.inl a)) = ml.bind fun l => forL (θ := Empty) (fun x a => (f x a).bind fun a => .ok (b2L a)) l a0 := by
    cases ml with
    | ok l => exact (forB_L f l a0).symm
    | exn e => rfl
    | bad => rfl
  rw [e]
  exact h.ev
theorem ds_forX [Inhabited s] [Inhabited α] {Z : θ → Oc X.K} {f : α → s → R ε (s ⊕ θ)} (hp : PassesOwn (model X.prog X.w) X.A X.env X.xe) (hc : X.calm = true) (hi : DI X J ρ tg iter wi T ml) (w : Wk ρ (eH a0)) (hg : ∀ a, DG X (eH a) tg g T (eB a) ix) (hZ : ∀ c, ∃ P, Z c = .rt P)
    (hb : ∀ a x, DS X J (eB a x) body tb (ocN eH Z) (f x a)) : DS1 X J ρ (.For tg iter body [] pos) (tFor wi g tb) (ocX eH Z) (ml.bind fun l => forX f l a0) := by
  have h := ds_for (Z := Z) (pos := pos) (f := fun x a => (f x a).bind fun a => .ok (x2L a)) hp hc hi w hg hZ (fun a x => (hb a x).map (I' := Lp.oc eH _) (g := x2L) fun a => by
    cases a with
    | inl a => rfl
    | inr c =>
      obtain ⟨P, e⟩ := hZ c
      show (Z c).noNx = Z c
      rw [e]; rfl)
  have e : (ml.bind fun l => forX f l a0) = ml.bind fun l => forL (fun x a => (f x a).bind fun a => .ok (x2L a)) l a0 := by
    cases ml with
    | ok l => exact (forX_L f l a0).symm
    | exn e => rfl
    | bad => rfl
  rw [e]
  exact h
def whileL (c : s → R ε Bool) (f : s → R ε (Lp s θ)) : Nat → s → R ε (s ⊕ θ)
  | 0, _ => .bad
  | n + 1, a => (c a).bind fun b => if b then (f a).bind fun
      | .next a' => whileL c f n a'
      | .brk a' => .ok (.inl a')
      | .exit r => .ok (.inr r)
    else .ok (.inl a)
theorem ds_while [Inhabited s] {cond : Expr} {tc : TT} {Z : θ → Oc X.K} {c : s → R ε Bool} {f : s → R ε (Lp s θ)} (n : Nat) (hp : PassesOwn (model X.prog X.w) X.A X.env X.xe) (w : Wk ρ (eH a0)) (hZ : ∀ c, ∃ P, Z c = .rt P)
    (hc : ∀ a, DT X J (eH a) cond tc (c a)) (hb : ∀ a, DS X J (eH a) body tb (Lp.oc eH Z) (f a)) :
    DS1 X J ρ (.While cond body [] pos) (tWhile tc tb) (ocX eH Z) (whileL c f n a0) :=
  ⟨ps_while hp (hc default).pt (hb default).ps, fun b F σ H D S q => by
    refine ⟨fun m σ H => ∃ F' a, Same F F' ∧ Sta b (eH a) F' σ H ∧ PostS J b F' D (ocX eH Z) (whileL c f m a), ⟨n, F, a0, Same.refl _, S.wk w, q⟩, ?_⟩
    rintro m σ2 H2 ⟨F2, a, sf, S2, q2⟩
    cases m with
    | zero => exact q2.elim
    | succ m =>
      unfold whileL at q2
      refine (hc a).ev.thenS S2 q2 fun cb F3 H3 g3 S3 q3 => ?_
      cases cb with
      | false =>
        rw [if_neg Bool.false_ne_true] at q3 ⊢
        exact q3 F3 σ2 H3 (Same.refl _) S3
      | true =>
        rw [if_pos rfl] at q3 ⊢
        refine ⟨fun σ' H' => ∃ F' a', Same F F' ∧ Sta b (eH a') F' σ' H' ∧ PostS J b F' D (ocX eH Z) (whileL c f m a'), fun σ' H' h => ⟨m, Nat.lt_succ_self m, h⟩, ?_⟩
        refine (hb a).ev b F3 σ2 H3 _ S3 ?_
        revert q3
        generalize f a = mf
        intro q3
        cases mf with
        | exn e => exact q3
        | bad => exact q3
        | ok r =>
          cases r with
          | next a' => exact ⟨fun F' σ' H' sf' S' => ⟨F', a', (sf.trans g3.f).trans sf', S', PostS.later sf' q3⟩, fun F' σ' H' sf' S' => ⟨F', a', (sf.trans g3.f).trans sf', S', PostS.later sf' q3⟩⟩
          | brk a' => exact q3
          | exit c =>
            obtain ⟨P, hP⟩ := hZ c
            have q3 : (Z c).Post b F3 D := q3
            show (Z c).noNx.Post b F3 _
            rw [hP] at q3 ⊢
            exact q3⟩
def whileS (c : s → R ε Bool) (f : s → R ε s) : Nat → s → R ε s
  | 0, _ => .bad
  | n + 1, a => (c a).bind fun b => if b then (f a).bind fun a' => whileS c f n a' else .ok a
theorem whileS_L (c : s → R ε Bool) (f : s → R ε s) : ∀ (n : Nat) (a : s), (whileL (θ := Empty) c (fun a => (f a).bind fun a => .ok (.next a)) n a) = (whileS c f n a).bind fun a => .ok (.inl a)
  | 0, a => rfl
  | n + 1, a => by
    unfold whileL whileS
    cases c a with
    | exn e => rfl
    | bad => rfl
    | ok b =>
      cases b with
      | false => rfl
      | true =>
        show ((f a).bind fun a => R.ok (Lp.next a)).bind _ = ((f a).bind fun a' => whileS c f n a').bind _
        cases f a with
        | ok a' => exact whileS_L c f n a'
        | exn e => rfl
        | bad => rfl
theorem ds_whileS [Inhabited s] {cond : Expr} {tc : TT} {c : s → R ε Bool} {f : s → R ε s} (n : Nat) (hp : PassesOwn (model X.prog X.w) X.A X.env X.xe) (w : Wk ρ (eH a0)) (hc : ∀ a, DT X J (eH a) cond tc (c a)) (hb : ∀ a, DS X J (eH a) body tb (fun a => .nc (eH a)) (f a)) :
    DS1 X J ρ (.While cond body [] pos) (tWhile tc tb) (fun a => .nx (eH a)) (whileS c f n a0) := by
  have h := ds_while (θ := Empty) (Z := zE) (pos := pos) (f := fun a => (f a).bind fun a => .ok (.next a)) n hp w (fun c => nomatch c) hc (fun a => (hb a).map (I' := Lp.oc eH _) (g := Lp.next) fun a => rfl)
  refine ⟨h.ps, EvalS.unmap (I' := ocX eH zE) (g := Sum.inl) ?_ fun a => rfl⟩
  rw [← whileS_L]
  exact h.ev
end
/-- the promise of a def: arguments as U says; it answers as f does -/
def spD {α β : Type} (EX : Ex ε) (U : Tys K α) (q : β → Rr) (f : α → R ε β) : Sp := fun vs H Q E => ∃ F a, Same F H ∧ Tbs (tabs K) H ∧ (∀ p ∈ tabs K, F p.1 = none) ∧ U.rel a F vs ∧ match f a with
  | .ok c => ∀ F' v H', Same F F' → Sm H H' → Tbs (tabs K) H' → Same F' H' → Nw ⟨H, F⟩ F' → q c ⟨H, F⟩ F' H' v → Q v H'
  | .exn e => ∀ F' cls od H', Same F F' → Sm H H' → Tbs (tabs K) H' → Same F' H' → Nw ⟨H, F⟩ F' → EX.rel e F' cls od H' → (∀ dx, od = some dx → H dx = none) → E cls od H'
  | .bad => False
/-- the slots at the entry -/
def nones (n : Nat) : Ev K := List.replicate n none
def pl {α : Type} (T : Ty K α) (a : α) : Option (Slt K) := some (.pl T a)
/-- the arguments fill the first slots -/
structure Ent {α : Type} (U : Tys K α) (N : List Str) (n : Nat) (ρ0 : α → Ev K) : Prop where
  len : ∀ a F vs, U.rel a F vs → vs.length = n
  le : n ≤ N.length
  rho : ∀ a, (ρ0 a).length = N.length
  pl : ∀ (a : α) (i : Nat) (s : Slt K), (ρ0 a)[i]? = some (some s) → s.isOw = false
  at_ : ∀ (a : α) (F : Hp) (vs : List V) (i : Nat) (s : Slt K), U.rel a F vs → (ρ0 a)[i]? = some (some s) → ∃ v, vs[i]? = some v ∧ ∀ b H, s.At b F H v
theorem Sta.enter {α : Type} {U : Tys K α} {N : List Str} {n : Nat} {ρ0 : α → Ev K} (h : Ent U N n ρ0) {a : α} {F H : Hp} {vs : List V} (fh : Same F H) (tb : Tbs (tabs K) H) (nt : ∀ p ∈ tabs K, F p.1 = none) (r : U.rel a F vs) : Sta ⟨H, F⟩ (ρ0 a) F (start N vs) H where
  h0 := Sm.refl _
  tb := tb
  nt := nt
  f0 := Same.refl _
  fh := fh
  nw := fun c o e z => by rw [show F c = none from z] at e; cases e
  len := by
    have l1 := h.len a F vs r
    have l2 := h.le
    rw [h.rho]
    unfold L2.start
    rw [List.length_append, List.length_map, List.length_replicate]
    omega
  sl := fun i s e => by
    obtain ⟨v, e1, e2⟩ := h.at_ a F vs i s r e
    refine ⟨v, ?_, e2 _ _⟩
    have hi : i < vs.length := (List.getElem?_eq_some_iff.mp e1).1
    unfold L2.start
    rw [List.getElem?_append_left (by rw [List.length_map]; exact hi), List.getElem?_map, e1]
    rfl
  ds := fun i j s t v e1 e2 o1 o2 => by rw [h.pl a i s e1] at o1; cases o1
theorem nones_get {n i : Nat} {s : Slt K} (e : (nones n : Ev K)[i]? = some (some s)) : False := by
  unfold nones at e
  rw [List.getElem?_replicate] at e
  split at e <;> cases e
theorem ent1 {α : Type} {T : Ty K α} {x : Str} {N : List Str} {n : Nat} (hn : N.length = n) : Ent (tys1 T) (x :: N) 1 (fun a => pl T a :: nones n) := by
  refine ⟨fun a F vs ⟨v, h, _⟩ => by subst h; rfl, Nat.succ_le_succ (Nat.zero_le _), fun a => ?_, fun a i s e => ?_, fun a F vs i s ⟨v, h, r⟩ e => ?_⟩
  · unfold nones; rw [List.length_cons, List.length_cons, List.length_replicate, hn]
  · cases i with
    | zero => cases e; rfl
    | succ i => rw [List.getElem?_cons_succ] at e; exact (nones_get e).elim
  · cases i with
    | zero => cases e; exact ⟨v, by rw [h]; rfl, fun b H => r⟩
    | succ i => rw [List.getElem?_cons_succ] at e; exact (nones_get e).elim
theorem entC {α β : Type} {T : Ty K α} {U : Tys K β} {x : Str} {N : List Str} {n : Nat} {ρ0 : β → Ev K} (h : Ent U N n ρ0) : Ent (tysC T U) (x :: N) (n + 1) (fun a => pl T a.1 :: ρ0 a.2) := by
  refine ⟨fun a F vs ⟨v, r, e, _, q⟩ => by subst e; rw [List.length_cons, h.len _ _ _ q], Nat.succ_le_succ h.le, fun a => by rw [List.length_cons, List.length_cons, h.rho], fun a i s e => ?_, fun a F vs i s ⟨v, r, e1, q1, q2⟩ e => ?_⟩
  · cases i with
    | zero => cases e; rfl
    | succ i => exact h.pl a.2 i s e
  · cases i with
    | zero => cases e; exact ⟨v, by rw [e1]; rfl, fun b H => q1⟩
    | succ i =>
      obtain ⟨w, e2, e3⟩ := h.at_ a.2 F r i s q2 e
      exact ⟨w, by rw [e1]; exact e2, e3⟩
/-- THE RULE for a def -/
theorem fn_ok {α β : Type} {P : Program} {w : World} {mg : Str → Option Value} {base : Heap} {CX : CXT} {x qual : Str} {params : Arguments} {body : List Stmt} {scope : Scope} {dvs : List V} {kws : List (Str × V)} {f : Addr} {fd : FuncData} {N ps : List Str} {k n : Nat}
    {U : Tys K α} {ρ0 : α → Ev K} {EX : Ex ε} {q : β → Rr} {g : α → R ε β} (F : FunD K x qual params body scope dvs kws f fd) (S : FnScope N ps scope) (En : Ent U N n ρ0) (hn : ps.length = n)
    (hb : ∀ (cdv : Value) (A : Around) (outer : List Env) (s : Shared) (H : Hp) (E : XK), Room k (A.deeper (envOfC qual scope s.heap.objs.size f cdv)) → ∀ a : α,
      ∃ (t : TS) (I : β → Oc K), DS (cxOf CX P w K mg base N qual scope f cdv A outer s H E) ⟨EX, fun _ => E, nones N.length⟩ (ρ0 a) body t I (g a) ∧ ∀ c, I c = .rt (q c) ∨ ((∃ ρ', I c = .nx ρ') ∧ ∀ b F H, q c b F H .non)) :
    FnOk P w K mg base CX (k + 1) f fd ps (spD EX U q g) :=
  F.ok S (fun vs H Q E ⟨F, a, _, _, _, r, _⟩ => by rw [En.len a F vs r, hn]) fun cdv A outer s H vs Q E hr ⟨F, a, fh, tb, nt, r, h⟩ => by
    obtain ⟨t, I, D, hI⟩ := hb cdv A outer s H E hr a
    refine ⟨t, D.ps, D.ev ⟨H, F⟩ F _ H _ (Sta.enter En fh tb nt r) ?_⟩
    cases e : g a with
    | ok c =>
      rw [e] at h
      show (I c).Post _ _ _
      rcases hI c with z | ⟨⟨ρ', z⟩, zn⟩
      · rw [z]
        exact fun F' v H' h1 h2 h3 h4 h5 r => h F' v H' h1 h2 h3 h4 h5 r
      · rw [z]
        exact fun F' σ' H' _ S' => h F' .non H' S'.f0 S'.h0 S'.tb S'.fh S'.nw (zn _ _ _)
    | exn e' =>
      rw [e] at h
      exact fun F' σ' cls od H' S' r n => h F' cls od H' S'.f0 S'.h0 S'.tb S'.fh S'.nw r n
    | bad => rw [e] at h; exact h.elim
end Cp
namespace Cp
open PySem PySem.Spec L2
open PyProof.Rows hiding St
variable {K : PySem.W.Frag} {ε : Type}
section
variable (J : Jc K ε)
/-- arguments that are leant on -/
def PostAp {α : Type} (b : B) (ρ : Ev K) (U : Tys K α) (F : Hp) (σ : St) (H : Hp) (Q : List V → Hp → Prop) : R ε α → Prop
  | .ok a => ∀ F' v H', Gr F H F' H' → Sta b ρ F' σ H' → U.rel a F' v → Q v H'
  | .exn e => Pex J b e
  | .bad => False
def EvalAp {α : Type} (t : TA) (ρ : Ev K) (U : Tys K α) (m : R ε α) : Prop := ∀ (b : B) (F : Hp) (σ : St) (H : Hp) (Q : List V → Hp → Prop), Sta b ρ F σ H → PostAp J b ρ U F σ H Q m → t σ H Q
def PostL {α : Type} (b : B) (ρ : Ev K) (T : Ty K α) (F : Hp) (σ : St) (H : Hp) (Q : List V → Hp → Prop) : R ε (List α) → Prop
  | .ok a => ∀ F' v H', Gr F H F' H' → Sta b ρ F' σ H' → T.all a F' v → Q v H'
  | .exn e => Pex J b e
  | .bad => False
def EvalL {α : Type} (t : TA) (ρ : Ev K) (T : Ty K α) (m : R ε (List α)) : Prop := ∀ (b : B) (F : Hp) (σ : St) (H : Hp) (Q : List V → Hp → Prop), Sta b ρ F σ H → PostL J b ρ T F σ H Q m → t σ H Q
end
structure DAp {α : Type} (X : Cx) (J : Jc X.K ε) (ρ : Ev X.K) (es : List Expr) (t : TA) (U : Tys X.K α) (m : R ε α) : Prop where
  pa : PA X es t
  ev : EvalAp J t ρ U m
structure DL {α : Type} (X : Cx) (J : Jc X.K ε) (ρ : Ev X.K) (es : List Expr) (t : TA) (T : Ty X.K α) (n : Nat) (m : R ε (List α)) : Prop where
  pa : PA X es t
  ev : EvalL J t ρ T m
  nn : es.length = n
  hn : ∀ {l : List α}, m = .ok l → l.length = n
section
variable {α β γ : Type} {X : Cx} {J : Jc X.K ε} {ρ : Ev X.K} {e : Expr} {es : List Expr} {t : TE} {ta : TA} {μ : Md}
theorem da_one {T : Ty X.K α} {m : R ε α} (h : DE X J ρ e t (rV μ T) m) (hs : starEach [e] X.env = (false, eval e X.env) :: starEach [] X.env := by rfl) : DA X J ρ [e] (tCons t tNil) (tys1 T) m :=
  ⟨pa_cons h.pe pa_nil hs, fun b F σ H Q S q => h.ev b F σ H _ S (by
    cases m with
    | ok a => exact fun F' v H' g S' r => q F' [v] H' g S' ⟨v, rfl, T.mono (Md.gb μ) r⟩
    | exn e => exact q
    | bad => exact q)⟩
theorem da_cons {T : Ty X.K α} {U : Tys X.K β} {m : R ε α} {n : R ε β} (h : DE X J ρ e t (rV μ T) m) (hr : DA X J ρ es ta U n) (hs : starEach (e :: es) X.env = (false, eval e X.env) :: starEach es X.env := by rfl) :
    DA X J ρ (e :: es) (tCons t ta) (tysC T U) (m.bind fun a => n.bind fun c => .ok (a, c)) :=
  ⟨pa_cons h.pe hr.pa hs, fun b F σ H Q S q => h.ev b F σ H _ S (by
    cases m with
    | ok a =>
      intro F1 v H1 g S1 r
      refine hr.ev b F1 σ H1 _ S1 ?_
      cases n with
      | ok c => exact fun F2 vs H2 g2 S2 r2 => q F2 (v :: vs) H2 (g.trans g2) S2 ⟨v, vs, rfl, T.mono ((Md.gb μ).trans (Gh.mono g2 S1)) r, r2⟩
      | exn e => exact q
      | bad => exact q
    | exn e => exact q
    | bad => exact q)⟩
theorem dp_one {T : Ty X.K α} {m : R ε α} (h : DE X J ρ e t (rP T) m) (hs : starEach [e] X.env = (false, eval e X.env) :: starEach [] X.env := by rfl) : DAp X J ρ [e] (tCons t tNil) (tys1 T) m :=
  ⟨pa_cons h.pe pa_nil hs, fun b F σ H Q S q => h.ev b F σ H _ S (by
    cases m with
    | ok a => exact fun F' v H' g S' r => q F' [v] H' g S' ⟨v, rfl, r⟩
    | exn e => exact q
    | bad => exact q)⟩
theorem dp_cons {T : Ty X.K α} {U : Tys X.K β} {m : R ε α} {n : R ε β} (h : DE X J ρ e t (rP T) m) (hr : DAp X J ρ es ta U n) (hs : starEach (e :: es) X.env = (false, eval e X.env) :: starEach es X.env := by rfl) :
    DAp X J ρ (e :: es) (tCons t ta) (tysC T U) (m.bind fun a => n.bind fun c => .ok (a, c)) :=
  ⟨pa_cons h.pe hr.pa hs, fun b F σ H Q S q => h.ev b F σ H _ S (by
    cases m with
    | ok a =>
      intro F1 v H1 g S1 r
      refine hr.ev b F1 σ H1 _ S1 ?_
      cases n with
      | ok c => exact fun F2 vs H2 g2 S2 r2 => q F2 (v :: vs) H2 (g.trans g2) S2 ⟨v, vs, rfl, T.mono g2.f r, r2⟩
      | exn e => exact q
      | bad => exact q
    | exn e => exact q
    | bad => exact q)⟩
theorem dl_nil {T : Ty X.K α} : DL X J ρ [] tNil T 0 (.ok []) := ⟨pa_nil, fun b F σ H Q S q => q F [] H (Gr.refl _ _) S .nil, rfl, fun h => by cases h; rfl⟩
theorem dl_cons {T : Ty X.K α} {m : R ε α} {k : Nat} {n : R ε (List α)} (h : DE X J ρ e t (rP T) m) (hr : DL X J ρ es ta T k n) (hs : starEach (e :: es) X.env = (false, eval e X.env) :: starEach es X.env := by rfl) :
    DL X J ρ (e :: es) (tCons t ta) T (k + 1) (m.bind fun a => n.bind fun c => .ok (a :: c)) :=
  ⟨pa_cons h.pe hr.pa hs, fun b F σ H Q S q => h.ev b F σ H _ S (by
    cases m with
    | ok a =>
      intro F1 v H1 g S1 r
      refine hr.ev b F1 σ H1 _ S1 ?_
      cases n with
      | ok c => exact fun F2 vs H2 g2 S2 r2 => q F2 (v :: vs) H2 (g.trans g2) S2 (.cons (T.mono g2.f r) r2)
      | exn e => exact q
      | bad => exact q
    | exn e => exact q
    | bad => exact q), by rw [List.length_cons, hr.nn], fun h => by
    cases m with
    | ok a =>
      cases n with
      | ok c => cases h; rw [List.length_cons, hr.hn rfl]
      | exn e => cases h
      | bad => cases h
    | exn e => cases h
    | bad => cases h⟩
theorem de_tup {U : Tys X.K α} {m : R ε α} {x1} {pos : Pos} (h : DAp X J ρ es ta U m) (hl : U.n ≤ sizeLine := by rw [sizeLine_eq]; exact Nat.le_of_ble_eq_true rfl) : DE X J ρ (.Tuple es x1 pos) (tTup ta) (rP (yTup U)) m :=
  ⟨pe_tup h.pa, fun b F σ H Q S q => h.ev b F σ H _ S (by
    cases m with
    | ok a => exact fun F' vs H' g S' r => ⟨by rw [U.len r]; exact hl, fun p hp => q _ _ _ (g.trans (Gr.new S'.fh hp)) (S'.new hp) ⟨p, vs, rfl, .of upd_same, U.mono (same_upd (S'.freshF hp)) r⟩⟩
    | exn e => exact q
    | bad => exact q)⟩
/-- a list, item by item -/
theorem de_lst {T : Ty X.K α} {m : R ε (List α)} {n : Nat} {pos : Pos} (h : DL X J ρ es ta T n m) (hl : n ≤ sizeLine := by rw [sizeLine_eq]; exact Nat.le_of_ble_eq_true rfl) : DE X J ρ (.List es pos) (tLst ta) (rF (cLst T)) m :=
  ⟨pe_lst h.pa, fun b F σ H Q S q => h.ev b F σ H _ S (by
    cases m with
    | ok a => exact fun F' vs H' g S' r => ⟨by rw [Paired.length r, h.hn rfl]; exact hl, fun p hp => q _ _ _ (g.trans (Gr.newH hp)) (S'.newH hp) ⟨p, _, rfl, g.h.free hp, upd_same, S'.freshF hp, vs, rfl, r⟩⟩
    | exn e => exact q
    | bad => exact q)⟩
/-- what is seen of the slots' objects goes back to the slots -/
theorem call_back {β : Type} {b : B} {ρ : Ev K} {F : Hp} {σ : St} {H : Hp} {F' H' : Hp} (S : Sta b ρ F σ H) (sf : Same (Gh ρ σ F H) F') (sh : Sm H H') (tb : Tbs (tabs K) H') (fh : Same F' H') (nw : Nw ⟨H, Gh ρ σ F H⟩ F') :
    ∃ F'', Gr F H F'' H' ∧ Sta b ρ F'' σ H' ∧ (∀ p o, F' p = some o → ¬ Lc o → F'' p = some o) ∧ Same F'' F' ∧ ∀ p, F' p = none → F'' p = none := by
  classical
  let F'' : Hp := fun p => if F p = none ∧ Gh ρ σ F H p ≠ none then none else F' p
  have hF'' : ∀ p, F'' p = if F p = none ∧ Gh ρ σ F H p ≠ none then none else F' p := fun p => rfl
  have s1 : Same F F'' := fun p o e => by
    rw [hF'', if_neg (by rw [e]; rintro ⟨z, _⟩; cases z)]
    exact sf _ _ (Gh.ge _ _ e)
  have s2 : Same F'' F' := fun p o e => by
    rw [hF''] at e
    split at e
    · cases e
    · exact e
  have g : Gr F H F'' H' := ⟨s1, sh, fun p ⟨o, e⟩ n => by
    rw [hF'']
    split
    · rfl
    · rename_i z
      cases q : F' p with
      | none => rfl
      | some u =>
        have gn : Gh ρ σ F H p = none := by
          cases q2 : Gh ρ σ F H p with
          | none => rfl
          | some w => exact (z ⟨n, by rw [q2]; exact fun e => nomatch e⟩).elim
        have := nw p u q gn
        rw [show H p = none from this] at e; cases e⟩
  refine ⟨F'', g, g.sta S tb (s2.trans fh), fun p o e nl => ?_, s2, fun p e => ?_⟩
  · rw [hF'']
    split
    · rename_i z
      obtain ⟨z1, z2⟩ := z
      exfalso
      cases q : Gh ρ σ F H p with
      | none => exact z2 q
      | some u =>
        have e2 := sf _ _ q
        rw [e] at e2; cases e2
        -- an own object
        unfold Gh at q
        rw [z1] at q
        simp only at q
        split at q
        case isFalse => cases q
        case isTrue y =>
          obtain ⟨i, s, y1, y2, y3⟩ := y
          obtain ⟨v, y4, y5⟩ := S.sl i s y1
          rw [y3] at y4; cases y4
          cases s with
          | pl T a => cases y2
          | ow C a =>
            obtain ⟨p', o', e1, e2, _, _, e5⟩ := y5
            cases e1
            rw [q] at e2; cases e2
            exact nl (C.mu e5)
    · exact e
  · rw [hF'']
    split
    · rfl
    · exact e
/-- no slot holds an object of its own -/
def NoOw (ρ : Ev K) : Prop := ∀ (i : Nat) (s : Slt K), ρ[i]? = some (some s) → s.isOw = false
variable {mg : Str → Option Value} {CX : CXT} {k : Nat} {f : Addr} {fd : FuncData} {ps : List Str} {x : Str} {p pos : Pos} {U : Tys X.K α} {g : α → R ε β} {m : R ε α} {ds : List Value} {dvs : List V}
def tCallG (sp : Sp) (E : St → XK) (t : TA) (dvs : List V) : TE := fun σ H Q => t σ H fun vs H1 => sp (vs ++ dvs) H1 Q (E σ)
theorem run_fnG {sp : Sp} {E : St → XK} {pins : List (Addr × Obj)} {σ : St} {H : Hp} {s : Shared} {Q : VK} {us : List Value} {vs : List V} (F : FnOk X.prog X.w X.K X.mg X.base CX k f fd ps sp) (hr : Room k X.A) (hb : Binds X.K fd ps ds) (hd : Vals dvs ds) (hx : PassesAt CX X σ (E σ))
    (I : Inv X pins σ H s) (r : Vals vs us) (h : sp (vs ++ dvs) H Q (E σ)) : wpAny (model X.prog X.w) X.A (call (.ref f) us) (EP X pins σ Q) X.xe s := by
  have r2 : Vals (vs ++ dvs) (us ++ ds) := r.append hd
  have hl : (us ++ ds).length = ps.length := by rw [← r2.length]; exact F.len _ _ _ _ h
  refine wpAny_call (codeAny_mono (F.run X.A X.stack s H ⟨us, []⟩ (us ++ ds) (vs ++ dvs) Q (E σ) hr I.env0 (hb s us I.kIn hl) r2 h) fun r s' hq => ?_)
  cases r with
  | error e => exact hx pins H s e s' I hq
  | ok fl =>
    cases fl with
    | ret u => exact I.after hq
    | next => exact False.elim hq
    | brk => exact False.elim hq
    | cont => exact False.elim hq
theorem pe_callG {sp : Sp} {E : St → XK} (F : FnOk X.prog X.w X.K X.mg X.base CX k f fd ps sp) (hr : Room k X.A) (hg : Gl X x) (hm : X.mg x = some (.ref f)) (hk : PySem.W.keepIn X.K (.ref f) = true) (hb : Binds X.K fd ps ds) (hd : Vals dvs ds) (hx : ∀ σ, PassesAt CX X σ (E σ))
    (ha : PA X (e :: es) ta) (hdb : (x == ("__debug__" : Str)) = false := by decide) (he : starEach (e :: es) X.env = (false, eval e X.env) :: starEach es X.env := by rfl) (hpl : (backTo pos (starEach es X.env)).any (·.1) = false := by rfl) :
    PE X (.Call (.Name x p) (e :: es) [] pos) (tCallG sp E ta dvs) := by
  refine ⟨fun pins s σ H Q I h => ?_⟩
  refine wpAny_Call_Name_kw (ld_glob I hg hm ?_ hdb)
  refine PySem.W.callWith_K (h₀ := X.base) I.ok.mod.kin hk (thn (ha.run pos pins s σ H _ I h) fun us s1 ⟨vs, H1, I1, r, q⟩ => ⟨I1.kIn, ?_⟩) he hpl
  exact run_fnG F hr hb hd (hx σ) I1 r q
/-- a call that gives plain data; what it is handed may be the slots' own -/
theorem de_call {T : Ty X.K β} (F : FnOk X.prog X.w X.K X.mg X.base CX k f fd ps (spD J.EX U (qP T) g)) (hr : Room k X.A) (hg : Gl X x) (hm : X.mg x = some (.ref f)) (hk : PySem.W.keepIn X.K (.ref f) = true) (hb : Binds X.K fd ps []) (hx : ∀ σ, PassesAt CX X σ (J.E σ))
    (ha : DA X J ρ (e :: es) ta U m) (hi : T.imm) (hw : Wk ρ J.eh) (hdb : (x == ("__debug__" : Str)) = false := by decide) (he : starEach (e :: es) X.env = (false, eval e X.env) :: starEach es X.env := by rfl) (hpl : (backTo pos (starEach es X.env)).any (·.1) = false := by rfl) :
    DE X J ρ (.Call (.Name x p) (e :: es) [] pos) (tCallG (spD J.EX U (qP T) g) J.E ta []) (rP T) (m.bind g) :=
  ⟨pe_callG F hr hg hm hk hb .nil hx ha.pa hdb he hpl, fun b F0 σ H Q S q => ha.ev.then_ S q fun a F1 vs H1 g1 S1 r1 q1 => by
    rw [List.append_nil]
    refine ⟨_, a, Gh.le S1.fh, S1.tb, Gh.nt S1, r1, ?_⟩
    revert q1
    generalize g a = z
    intro q1
    cases z with
    | ok c =>
      intro F' v H' h1 h2 tb h3 h4 h5
      obtain ⟨F'', g2, S2, h6, h7, h8⟩ := call_back (β := β) S1 h1 h2 tb h3 h4
      exact q1 F'' v H' g2 S2 (hi h6 h5)
    | exn e' =>
      intro F' cls od H' h1 h2 tb h3 h4 h5 hn
      obtain ⟨F'', g2, S2, h6, h7, h8⟩ := call_back (β := β) S1 h1 h2 tb h3 h4
      exact q1 F'' σ cls od H' (S2.wk hw) (J.EX.imm h6 h5) fun dx z => S1.freshB (hn dx z)
    | bad => exact q1⟩
/-- a call that gives a new object -/
theorem de_callF {C : Ct X.K β} (F : FnOk X.prog X.w X.K X.mg X.base CX k f fd ps (spD J.EX U (qF C) g)) (hr : Room k X.A) (hg : Gl X x) (hm : X.mg x = some (.ref f)) (hk : PySem.W.keepIn X.K (.ref f) = true) (hb : Binds X.K fd ps []) (hx : ∀ σ, PassesAt CX X σ (J.E σ))
    (ha : DA X J ρ (e :: es) ta U m) (hi : C.imm) (hw : Wk ρ J.eh) (hdb : (x == ("__debug__" : Str)) = false := by decide) (he : starEach (e :: es) X.env = (false, eval e X.env) :: starEach es X.env := by rfl) (hpl : (backTo pos (starEach es X.env)).any (·.1) = false := by rfl) :
    DE X J ρ (.Call (.Name x p) (e :: es) [] pos) (tCallG (spD J.EX U (qF C) g) J.E ta []) (rF C) (m.bind g) :=
  ⟨pe_callG F hr hg hm hk hb .nil hx ha.pa hdb he hpl, fun b F0 σ H Q S q => ha.ev.then_ S q fun a F1 vs H1 g1 S1 r1 q1 => by
    rw [List.append_nil]
    refine ⟨_, a, Gh.le S1.fh, S1.tb, Gh.nt S1, r1, ?_⟩
    revert q1
    generalize g a = z
    intro q1
    cases z with
    | ok c =>
      intro F' v H' h1 h2 tb h3 h4 h5
      obtain ⟨F'', g2, S2, h6, h7, h8⟩ := call_back (β := β) S1 h1 h2 tb h3 h4
      obtain ⟨p, o, e1, e2, e3, e4, e5⟩ := h5
      exact q1 F'' v H' g2 S2 ⟨p, o, e1, e4, e2, h8 _ e3, hi h6 e5⟩
    | exn e' =>
      intro F' cls od H' h1 h2 tb h3 h4 h5 hn
      obtain ⟨F'', g2, S2, h6, h7, h8⟩ := call_back (β := β) S1 h1 h2 tb h3 h4
      exact q1 F'' σ cls od H' (S2.wk hw) (J.EX.imm h6 h5) fun dx z => S1.freshB (hn dx z)
    | bad => exact q1⟩
theorem EvalAp.then_ {J : Jc K ε} {ρ : Ev K} {b : B} {F : Hp} {σ : L2.St} {H : Hp} {Q : VK} {P : Rk K α} {t : TA} {U : Tys K β} {m : R ε β} {k : β → R ε α} {R' : List V → Hp → Prop} (h : EvalAp J t ρ U m) (S : Sta b ρ F σ H) (q : PostE J b ρ P F σ H Q (m.bind k))
    (hk : ∀ a F' v H', Gr F H F' H' → Sta b ρ F' σ H' → U.rel a F' v → PostE J b ρ P F' σ H' Q (k a) → R' v H') : t σ H R' := by
  refine h b F σ H R' S ?_
  cases m with
  | ok a => exact fun F' v H' g S' r => hk a F' v H' g S' r (PostE.later g q)
  | exn e => exact q
  | bad => exact q
/-- what a call leans on goes on -/
theorem call_on {b : B} {ρ : Ev K} {F : Hp} {σ : L2.St} {H : Hp} {F' H' : Hp} (S : Sta b ρ F σ H) (sf : Same F F') (sh : Sm H H') (tb : Tbs (tabs K) H') (fh : Same F' H') (nw : Nw ⟨H, F⟩ F') : Gr F H F' H' ∧ Sta b ρ F' σ H' := by
  have g : Gr F H F' H' := ⟨sf, sh, fun p ⟨o, e⟩ n => by
    cases q : F' p with
    | none => rfl
    | some u =>
      have := nw p u q n
      rw [show H p = none from this] at e; cases e⟩
  exact ⟨g, g.sta S tb fh⟩
def rIx {α : Type} (l : List α) (i : Int) : R ε α := match atI l i with
  | some a => .ok a
  | none => .bad
theorem all_get {T : Ty K α} {F : Hp} : ∀ {l : List α} {xs : List V} {j : Nat} {a : α}, T.all l F xs → l[j]? = some a → ∃ v, xs[j]? = some v ∧ T.rel a F v
  | _, _, _, _, .nil, e => by simp at e
  | _, _, 0, _, .cons r _, e => by simp at e; subst e; exact ⟨_, rfl, r⟩
  | _, _, j + 1, a, .cons _ t, e => by
    obtain ⟨u, h1, h2⟩ := all_get (j := j) (a := a) t (by simpa using e)
    exact ⟨u, by simpa using h1, h2⟩
theorem atI_rel {T : Ty K α} {l : List α} {F : Hp} {xs : List V} {i : Int} {a : α} (r : T.all l F xs) (h : atI l i = some a) : ∃ v, atI xs i = some v ∧ T.rel a F v := by
  have hl := Paired.length r
  unfold atI at h ⊢
  rw [hl]
  cases q : ixN l.length i with
  | none => rw [q] at h; cases h
  | some j => rw [q] at h; exact all_get r h
variable {e' : Expr} {t' : TE} {ν : Md}
theorem de_ixL {T : Ty X.K α} {ml : R ε (List α)} {mi : R ε Int} (ha : DE X J ρ e t (rV μ (yLst T)) ml) (hi : DE X J ρ e' t' (rV ν yInt) mi) (hs : PlainIx e' := by exact fun _ _ => rfl) :
    DE X J ρ (.Subscript e e' pos) (tOp (rIxL X.K) t t') (rV μ T) (ml.bind fun l => mi.bind fun i => rIx l i) :=
  ⟨pe_ix ix_list ha.pe hi.pe hs, ha.ev.op2 hi.ev fun b F σ H l i v w Q S r1 r2 q => by
    cases r2
    obtain ⟨p, xs, rfl, hp, r⟩ := r1
    unfold rIx at q
    cases z : atI l i with
    | none => rw [z] at q; exact q.elim
    | some a =>
      rw [z] at q
      obtain ⟨v, h1, h2⟩ := atI_rel r z
      exact ⟨p, xs, i, v, rfl, rfl, .of (Md.le S μ _ _ hp), h1, PostE.here q S h2⟩⟩
theorem de_ixS {T : Ty X.K α} {ml : R ε (List α)} {mi : R ε Int} (ha : DE X J ρ e t (rV μ (yScr T)) ml) (hi : DE X J ρ e' t' (rV ν yInt) mi) (hs : PlainIx e' := by exact fun _ _ => rfl) :
    DE X J ρ (.Subscript e e' pos) (tOp (rIxL X.K) t t') (rV μ T) (ml.bind fun l => mi.bind fun i => rIx l i) :=
  ⟨pe_ix ix_list ha.pe hi.pe hs, ha.ev.op2 hi.ev fun b F σ H l i v w Q S r1 r2 q => by
    cases r2
    obtain ⟨p, xs, rfl, hp, r⟩ := r1
    unfold rIx at q
    cases z : atI l i with
    | none => rw [z] at q; exact q.elim
    | some a =>
      rw [z] at q
      obtain ⟨v, h1, h2⟩ := atI_rel r z
      exact ⟨p, xs, i, v, rfl, rfl, Same.seq (Md.le S μ) hp, h1, PostE.here q S h2⟩⟩
theorem de_ixT {T : Ty X.K α} {ml : R ε (List α)} {mi : R ε Int} (ha : DE X J ρ e t (rV μ (yTupOf T)) ml) (hi : DE X J ρ e' t' (rV ν yInt) mi) (hs : PlainIx e' := by exact fun _ _ => rfl) :
    DE X J ρ (.Subscript e e' pos) (tOp (rIxT X.K) t t') (rV μ T) (ml.bind fun l => mi.bind fun i => rIx l i) :=
  ⟨pe_ix ix_tup ha.pe hi.pe hs, ha.ev.op2 hi.ev fun b F σ H l i v w Q S r1 r2 q => by
    cases r2
    obtain ⟨p, xs, rfl, hp, r⟩ := r1
    unfold rIx at q
    cases z : atI l i with
    | none => rw [z] at q; exact q.elim
    | some a =>
      rw [z] at q
      obtain ⟨v, h1, h2⟩ := atI_rel r z
      exact ⟨p, xs, i, v, rfl, rfl, Same.sqt (Md.le S μ) hp, h1, PostE.here q S h2⟩⟩
/-- a place of a tuple of fixed length -/
structure Nth {α β : Type} (U : Tys K α) (k : Nat) (T : Ty K β) (π : α → β) : Prop where
  at_ : ∀ {a : α} {F : Hp} {vs : List V}, U.rel a F vs → ∃ v, vs[k]? = some v ∧ T.rel (π a) F v
theorem nth_1 {T : Ty K α} : Nth (tys1 T) 0 T (fun a => a) := ⟨fun ⟨v, e, r⟩ => ⟨v, by rw [e]; rfl, r⟩⟩
theorem nth_0 {T : Ty K α} {U : Tys K β} : Nth (tysC T U) 0 T Prod.fst := ⟨fun ⟨v, vs, e, r, _⟩ => ⟨v, by rw [e]; rfl, r⟩⟩
theorem nth_s {T : Ty K α} {U : Tys K β} {k : Nat} {T' : Ty K γ} {π : β → γ} (h : Nth U k T' π) : Nth (tysC T U) (k + 1) T' (fun a => π a.2) := ⟨fun ⟨v, vs, e, r, q⟩ => let ⟨w, e1, e2⟩ := h.at_ q; ⟨w, by rw [e]; exact e1, e2⟩⟩
theorem de_nth {U : Tys X.K α} {T : Ty X.K β} {π : α → β} {k : Int} {ma : R ε α} {j : Nat} {q : Pos} (ha : DE X J ρ e t (rV μ (yTup U)) ma) (hn : Nth U k.toNat T π) (hk : 0 ≤ k := by decide) :
    DE X J ρ (.Subscript e (.Constant (.int k) j q) pos) (tOp (rIxT X.K) t (tC (.int k))) (rV μ T) (ma.bind fun a => .ok (π a)) := by
  have h : DE X J ρ (.Subscript e (.Constant (.int k) j q) pos) (tOp (rIxT X.K) t (tC (.int k))) (rV μ T) (ma.bind fun a => (R.ok (ε := ε) k).bind fun i => if i = k then .ok (π a) else .bad) :=
    ⟨pe_ix ix_tup ha.pe pe_int (fun _ _ => rfl), ha.ev.op2 (μ := μ) (ν := .p) (U := yInt) (fun b F σ H Q S q => PostE.here q S rfl) fun b F σ H a i v w Q S r1 r2 q => by
      cases r2
      by_cases hi : i = k
      · subst hi
        rw [if_pos rfl] at q
        obtain ⟨p, xs, rfl, hp, r⟩ := r1
        obtain ⟨v, h1, h2⟩ := hn.at_ r
        refine ⟨p, xs, i, v, rfl, rfl, Same.sqt (Md.le S μ) hp, ?_, PostE.here q S h2⟩
        have := atI_nat h1
        rw [Int.toNat_of_nonneg hk] at this
        exact this
      · rw [if_neg hi] at q; exact q.elim⟩
  refine h.cast ?_
  congr 1
  funext a
  show (if k = k then R.ok (π a) else .bad) = _
  rw [if_pos rfl]
end
end Cp
namespace Cp
open PySem PySem.Spec L2
open PyProof.Rows hiding St
variable {K : PySem.W.Frag} {ε : Type}
section
variable {α β γ : Type}
theorem Dp.mono {F F' : Hp} (e : Same F F') : ∀ (d : PyData) (v : V), Dp K F v d → Dp K F' v d
  | .none, _, h => by cases h; exact .non
  | .bool b, _, h => by cases h; exact .bl b
  | .int i, _, h => by cases h; exact .int i
  | .str x, _, h => by cases h; exact .str x
  | .list ds, _, h => by
    cases h with
    | lst hs ha => exact .lst (Same.seq e hs) (all ds _ ha)
  | .tuple ds, _, h => by
    cases h with
    | tup hs ha => exact .tup (Same.sqt e hs) (all ds _ ha)
  | .dict _, _, h => by cases h
where all : ∀ (ds : List PyData) (vs : List V), DpAll K F vs ds → DpAll K F' vs ds
  | [], _, h => by cases h; exact .nil
  | d :: ds, _, h => by
    cases h with
    | cons h1 h2 => exact .cons (Dp.mono e d _ h1) (all ds _ h2)
/-- how data is told to the interpreter's == : up to d levels deep -/
structure Pd (T : Ty K α) where
  py : α → PyData
  d : Nat
  dp : ∀ {a : α} {F : Hp} {v : V}, T.rel a F v → Dp K F v (py a) ∧ (py a).canLay0 = true
  dep : ∀ a, (py a).depth ≤ d
structure Pds (U : Tys K α) where
  py : α → List PyData
  d : Nat
  dp : ∀ {a : α} {F : Hp} {v : List V}, U.rel a F v → DpAll K F v (py a) ∧ PyData.canLayAll0 (py a) = true
  dep : ∀ a, PyData.depthAll (py a) ≤ d
def pInt : Pd (yInt (K := K)) := ⟨.int, 0, fun h => by cases h; exact ⟨.int _, rfl⟩, fun _ => Nat.le_refl _⟩
def pBl : Pd (yBl (K := K)) := ⟨.bool, 0, fun h => by cases h; exact ⟨.bl _, rfl⟩, fun _ => Nat.le_refl _⟩
def pStr : Pd (yStr (K := K)) := ⟨.str, 0, fun h => by obtain ⟨h, z⟩ := h; cases h; exact ⟨.str _, by rw [PyData.canLay0]; exact z⟩, fun _ => Nat.le_refl _⟩
def ps1 {T : Ty K α} (P : Pd T) : Pds (tys1 T) := ⟨fun a => [P.py a], P.d, fun ⟨v, e, r⟩ => by subst e; exact ⟨.cons (P.dp r).1 .nil, by simp [PyData.canLayAll0, (P.dp r).2]⟩, fun a => by simp [PyData.depthAll]; exact P.dep a⟩
def psC {T : Ty K α} {U : Tys K β} (P : Pd T) (Q : Pds U) : Pds (tysC T U) := ⟨fun a => P.py a.1 :: Q.py a.2, max P.d Q.d, fun ⟨v, vs, e, r, q⟩ => by subst e; exact ⟨.cons (P.dp r).1 (Q.dp q).1, by simp [PyData.canLayAll0, (P.dp r).2, (Q.dp q).2]⟩, fun a => by
  have h1 := P.dep a.1
  have h2 := Q.dep a.2
  simp only [PyData.depthAll]
  omega⟩
def pTup {U : Tys K α} (P : Pds U) : Pd (yTup U) := ⟨fun a => .tuple (P.py a), P.d + 1, fun ⟨p, xs, e, h, r⟩ => by subst e; exact ⟨.tup h (P.dp r).1, by rw [PyData.canLay0]; exact (P.dp r).2⟩, fun a => by rw [PyData.depth]; exact Nat.succ_le_succ (P.dep a)⟩
theorem pd_all {T : Ty K α} (P : Pd T) {F : Hp} {xs : List V} {l : List α} (r : T.all l F xs) : DpAll K F xs (l.map P.py) ∧ PyData.canLayAll0 (l.map P.py) = true := by
  induction r with
  | nil => exact ⟨.nil, rfl⟩
  | cons r0 _ ih => exact ⟨.cons (P.dp r0).1 ih.1, by simp only [List.map_cons, PyData.canLayAll0, (P.dp r0).2, ih.2, Bool.and_true]⟩
theorem pd_depth {T : Ty K α} (P : Pd T) : ∀ l : List α, PyData.depthAll (l.map P.py) ≤ P.d
  | [] => Nat.zero_le _
  | a :: l => by
    have h1 := P.dep a
    have h2 := pd_depth P l
    simp only [List.map_cons, PyData.depthAll]
    omega
def pTupOf {T : Ty K α} (P : Pd T) : Pd (yTupOf T) := ⟨fun a => .tuple (a.map P.py), P.d + 1, fun ⟨p, xs, e, h, r⟩ => by subst e; exact ⟨.tup h (pd_all P r).1, by rw [PyData.canLay0]; exact (pd_all P r).2⟩, fun a => by rw [PyData.depth]; exact Nat.succ_le_succ (pd_depth P a)⟩
def pLst {T : Ty K α} (P : Pd T) : Pd (yLst T) := ⟨fun a => .list (a.map P.py), P.d + 1, fun ⟨p, xs, e, h, r⟩ => by subst e; exact ⟨.lst (.of h) (pd_all P r).1, by rw [PyData.canLay0]; exact (pd_all P r).2⟩, fun a => by rw [PyData.depth]; exact Nat.succ_le_succ (pd_depth P a)⟩
/-- what == gives -/
structure PEq {T : Ty K α} {U : Ty K β} (P : Pd T) (Q : Pd U) (f : α → β → Bool) : Prop where
  eq : ∀ a b, PyData.eqv (P.py a) (Q.py b) = f a b
structure PEqs {T : Tys K α} {U : Tys K β} (P : Pds T) (Q : Pds U) (f : α → β → Bool) : Prop where
  eq : ∀ a b, PyData.eqvAll (P.py a) (Q.py b) = f a b
theorem q_int : PEq (pInt (K := K)) pInt (fun a b => decide (a = b)) := ⟨fun a b => by simp [pInt, PyData.eqv]; rfl⟩
theorem q_bl : PEq (pBl (K := K)) pBl (fun a b => decide (a = b)) := ⟨fun a b => by simp [pBl, PyData.eqv]; cases a <;> cases b <;> rfl⟩
theorem q_str : PEq (pStr (K := K)) pStr (fun a b => decide (a = b)) := ⟨fun a b => by
  show PyData.eqv (.str a) (.str b) = _
  rw [PyData.eqv, Bool.eq_iff_iff]
  simp⟩
theorem q_1 [DecidableEq α] {T : Ty K α} {P : Pd T} (h : PEq P P fun a b => decide (a = b)) : PEqs (ps1 P) (ps1 P) fun a b => decide (a = b) := ⟨fun a b => by
  show PyData.eqvAll [P.py a] [P.py b] = _
  rw [PyData.eqvAll, h.eq, PyData.eqvAll, Bool.and_true]⟩
theorem q_C [DecidableEq α] [DecidableEq β] {T : Ty K α} {U : Tys K β} {P : Pd T} {Q : Pds U} (h : PEq P P fun a b => decide (a = b)) (h2 : PEqs Q Q fun a b => decide (a = b)) : PEqs (psC P Q) (psC P Q) fun a b => decide (a = b) := ⟨fun a b => by
  show PyData.eqvAll (P.py a.1 :: Q.py a.2) (P.py b.1 :: Q.py b.2) = _
  rw [PyData.eqvAll, h.eq, h2.eq, Bool.eq_iff_iff]
  simp only [Bool.and_eq_true, decide_eq_true_eq, Prod.ext_iff]⟩
theorem q_tup [DecidableEq α] {U : Tys K α} {P : Pds U} (h : PEqs P P fun a b => decide (a = b)) : PEq (pTup P) (pTup P) fun a b => decide (a = b) := ⟨fun a b => by
  show PyData.eqv (.tuple (P.py a)) (.tuple (P.py b)) = _
  rw [PyData.eqv, h.eq]⟩
theorem q_all [DecidableEq α] {T : Ty K α} {P : Pd T} (h : PEq P P fun a b => decide (a = b)) : ∀ l l' : List α, PyData.eqvAll (l.map P.py) (l'.map P.py) = decide (l = l')
  | [], [] => rfl
  | [], _ :: _ => rfl
  | _ :: _, [] => rfl
  | a :: l, b :: l' => by
    rw [List.map_cons, List.map_cons, PyData.eqvAll, h.eq, q_all h l l', Bool.eq_iff_iff]
    simp only [Bool.and_eq_true, decide_eq_true_eq, List.cons.injEq]
theorem q_lst [DecidableEq α] {T : Ty K α} {P : Pd T} (h : PEq P P fun a b => decide (a = b)) : PEq (pLst P) (pLst P) fun a b => decide (a = b) := ⟨fun a b => by
  show PyData.eqv (.list _) (.list _) = _
  rw [PyData.eqv, q_all h]⟩
end
section
variable {α β γ : Type} {X : Cx} {J : Jc X.K ε} {ρ : Ev X.K} {e e' : Expr} {t t' : TE} {pos : Pos} {μ ν : Md} {T : Ty X.K α} {U : Ty X.K β} {P : Pd T} {Q : Pd U} {f : α → β → Bool} {ma : R ε α} {mb : R ε β}
theorem shaped_of {d : PyData} (h : d.canLay0 = true) (h2 : d.depth ≤ 64) : SeqAt.shaped d = true := by
  unfold SeqAt.shaped
  rw [h, Bool.true_and]
  exact decide_eq_true h2
theorem lo {a b : Nat} (h : Nat.ble a b = true) : a ≤ b := Nat.le_of_ble_eq_true h
theorem dq_eq (hq : PEq P Q f) (hu : X.A.units + 64 < cLine) (h1 : P.d ≤ 64 := by decide) (h2 : Q.d ≤ 64 := by decide) (ha : DE X J ρ e t (rV μ T) ma) (hb : DE X J ρ e' t' (rV ν U) mb) :
    DQ X J ρ (.Compare e [.Eq] [e'] pos) (tOp (rEqD X.K) t t') (ma.bind fun a => mb.bind fun c => .ok (f a c)) :=
  dq_cmp (op_eqD hu) (nomark _) ha hb fun b F σ H x y v w Q' S r1 r2 q => by
    obtain ⟨d1, l1⟩ := P.dp r1
    obtain ⟨d2, l2⟩ := Q.dp r2
    exact ⟨_, _, Dp.mono (Md.le S μ) _ _ d1, Dp.mono (Md.le S ν) _ _ d2, shaped_of l1 (Nat.le_trans (P.dep x) h1), shaped_of l2 (Nat.le_trans (Q.dep y) h2), by rw [hq.eq]; exact PostE.here q S rfl⟩
theorem dq_ne (hq : PEq P Q f) (hu : X.A.units + 64 < cLine) (h1 : P.d ≤ 64 := by decide) (h2 : Q.d ≤ 64 := by decide) (ha : DE X J ρ e t (rV μ T) ma) (hb : DE X J ρ e' t' (rV ν U) mb) :
    DQ X J ρ (.Compare e [.NotEq] [e'] pos) (tOp (rNeD X.K) t t') (ma.bind fun a => mb.bind fun c => .ok (!f a c)) :=
  dq_cmp (op_neD hu) (nomark _) ha hb fun b F σ H x y v w Q' S r1 r2 q => by
    obtain ⟨d1, l1⟩ := P.dp r1
    obtain ⟨d2, l2⟩ := Q.dp r2
    exact ⟨_, _, Dp.mono (Md.le S μ) _ _ d1, Dp.mono (Md.le S ν) _ _ d2, shaped_of l1 (Nat.le_trans (P.dep x) h1), shaped_of l2 (Nat.le_trans (Q.dep y) h2), by rw [hq.eq]; exact PostE.here q S rfl⟩
/-- ints and bools and texts, by themselves -/
theorem dq_cmpI {op : CmpOp} {p : Int → Int → Bool} {ma mb : R ε Int} (ho : OpR X (compareOp op) (rI0 fun i j => .bl (p i j))) (hm : behindInMarks op e' = false) (ha : DE X J ρ e t (rV μ yInt) ma) (hb : DE X J ρ e' t' (rV ν yInt) mb) :
    DQ X J ρ (.Compare e [op] [e'] pos) (tOp (rI0 fun i j => .bl (p i j)) t t') (ma.bind fun a => mb.bind fun c => .ok (p a c)) :=
  dq_cmp ho hm ha hb fun b F σ H x y v w Q S r1 r2 q => by cases r1; cases r2; exact ⟨x, y, rfl, rfl, PostE.here q S rfl⟩
theorem dq_lt {ma mb : R ε Int} (ha : DE X J ρ e t (rV μ yInt) ma) (hb : DE X J ρ e' t' (rV ν yInt) mb) : DQ X J ρ (.Compare e [.Lt] [e'] pos) (tOp (rI0 fun i j => .bl (decide (i < j))) t t') (ma.bind fun a => mb.bind fun c => .ok (decide (a < c))) := dq_cmpI op_lt (nomark _) ha hb
theorem dq_gt {ma mb : R ε Int} (ha : DE X J ρ e t (rV μ yInt) ma) (hb : DE X J ρ e' t' (rV ν yInt) mb) : DQ X J ρ (.Compare e [.Gt] [e'] pos) (tOp (rI0 fun i j => .bl (decide (j < i))) t t') (ma.bind fun a => mb.bind fun c => .ok (decide (c < a))) := dq_cmpI op_gt (nomark _) ha hb
theorem dq_ge {ma mb : R ε Int} (ha : DE X J ρ e t (rV μ yInt) ma) (hb : DE X J ρ e' t' (rV ν yInt) mb) : DQ X J ρ (.Compare e [.GtE] [e'] pos) (tOp (rI0 fun i j => .bl (decide (j ≤ i))) t t') (ma.bind fun a => mb.bind fun c => .ok (decide (c ≤ a))) := dq_cmpI op_ge (nomark _) ha hb
theorem dq_eqI {ma mb : R ε Int} (ha : DE X J ρ e t (rV μ yInt) ma) (hb : DE X J ρ e' t' (rV ν yInt) mb) : DQ X J ρ (.Compare e [.Eq] [e'] pos) (tOp rEq t t') (ma.bind fun a => mb.bind fun c => .ok (decide (a = c))) :=
  dq_cmp op_eq (nomark _) ha hb fun b F σ H x y v w Q S r1 r2 q => by
    cases r1; cases r2
    refine ⟨rfl, ?_⟩
    rw [show decide (V.int x = V.int y) = decide (x = y) by rw [Bool.eq_iff_iff]; simp]
    exact PostE.here q S rfl
theorem dq_neI {ma mb : R ε Int} (ha : DE X J ρ e t (rV μ yInt) ma) (hb : DE X J ρ e' t' (rV ν yInt) mb) : DQ X J ρ (.Compare e [.NotEq] [e'] pos) (tOp rNe t t') (ma.bind fun a => mb.bind fun c => .ok (!decide (a = c))) :=
  dq_cmp op_ne (nomark _) ha hb fun b F σ H x y v w Q S r1 r2 q => by
    cases r1; cases r2
    refine ⟨rfl, ?_⟩
    rw [show decide (V.int x = V.int y) = decide (x = y) by rw [Bool.eq_iff_iff]; simp]
    exact PostE.here q S rfl
theorem dq_eqS {ma mb : R ε Str} (ha : DE X J ρ e t (rV μ yStr) ma) (hb : DE X J ρ e' t' (rV ν yStr) mb) : DQ X J ρ (.Compare e [.Eq] [e'] pos) (tOp rEq t t') (ma.bind fun a => mb.bind fun c => .ok (decide (a = c))) :=
  dq_cmp op_eq (nomark _) ha hb fun b F σ H x y v w Q S r1 r2 q => by
    obtain ⟨r1, _⟩ := r1; obtain ⟨r2, _⟩ := r2
    cases r1; cases r2
    refine ⟨rfl, ?_⟩
    rw [show decide (V.str x = V.str y) = decide (x = y) by rw [Bool.eq_iff_iff]; simp]
    exact PostE.here q S rfl
theorem dq_neS {ma mb : R ε Str} (ha : DE X J ρ e t (rV μ yStr) ma) (hb : DE X J ρ e' t' (rV ν yStr) mb) : DQ X J ρ (.Compare e [.NotEq] [e'] pos) (tOp rNe t t') (ma.bind fun a => mb.bind fun c => .ok (!decide (a = c))) :=
  dq_cmp op_ne (nomark _) ha hb fun b F σ H x y v w Q S r1 r2 q => by
    obtain ⟨r1, _⟩ := r1; obtain ⟨r2, _⟩ := r2
    cases r1; cases r2
    refine ⟨rfl, ?_⟩
    rw [show decide (V.str x = V.str y) = decide (x = y) by rw [Bool.eq_iff_iff]; simp]
    exact PostE.here q S rfl
/-- is None -/
theorem dq_isN {ma : R ε (Option α)} {j : Nat} {q : Pos} (ha : DE X J ρ e t (rV μ (yOpt T)) ma) : DQ X J ρ (.Compare e [.Is] [.Constant .none j q] pos) (tOp (fun x y H Q => y = .non ∧ Q (.bl (decide (x = .non))) H) t (tC .non)) (ma.bind fun a => .ok a.isNone) :=
  ⟨pe_cmpR op_isN ha.pe pe_non (nomark _), pt_cmpR op_isN ha.pe pe_non (nomark _), ha.ev.op2 (μ := μ) (ν := .p) (U := yNon) (mb := .ok ()) (f := fun a _ => .ok a.isNone) (fun b F σ H Q S q => PostE.here q S rfl) fun b F σ H a i v w Q S r1 r2 q => by
    cases r2
    refine ⟨rfl, ?_⟩
    cases a with
    | none => cases (show v = V.non from r1); exact PostE.here q S rfl
    | some x => rw [decide_eq_false r1.2]; exact PostE.here q S rfl⟩
theorem dq_notN {ma : R ε (Option α)} {j : Nat} {q : Pos} (ha : DE X J ρ e t (rV μ (yOpt T)) ma) : DQ X J ρ (.Compare e [.IsNot] [.Constant .none j q] pos) (tOp (fun x y H Q => y = .non ∧ Q (.bl (!decide (x = .non))) H) t (tC .non)) (ma.bind fun a => .ok a.isSome) :=
  ⟨pe_cmpR op_notN ha.pe pe_non (nomark _), pt_cmpR op_notN ha.pe pe_non (nomark _), ha.ev.op2 (μ := μ) (ν := .p) (U := yNon) (mb := .ok ()) (f := fun a _ => .ok a.isSome) (fun b F σ H Q S q => PostE.here q S rfl) fun b F σ H a i v w Q S r1 r2 q => by
    cases r2
    refine ⟨rfl, ?_⟩
    cases a with
    | none => cases (show v = V.non from r1); exact PostE.here q S rfl
    | some x => rw [decide_eq_false r1.2]; exact PostE.here q S rfl⟩
/-- the value of what is not None -/
def unO {α : Type} : Option α → R ε α
  | some a => .ok a
  | none => .bad
theorem de_some {ma : R ε (Option α)} (ha : DE X J ρ e t (rV μ (yOpt T)) ma) : DE X J ρ e t (rV μ T) (ma.bind unO) :=
  ⟨ha.pe, fun b F σ H Q S q => ha.ev.then_ S q fun a F1 v H1 g1 S1 r1 q1 => by
    cases a with
    | none => exact q1.elim
    | some x => exact PostE.here q1 S1 r1.1⟩
def rNotInT (K : PySem.W.Frag) : R2 := fun x y H Q => ∃ d ds, Dp K H x d ∧ Dp K H y (.tuple ds) ∧ SeqAt.shaped d = true ∧ SeqAt.shaped (.tuple ds) = true ∧ Q (.bl (!ds.any fun z => PyData.eqv z d)) H
theorem op_notInT (hu : X.A.units + 65 < cLine) : OpR X (compareOp .NotIn) (rNotInT X.K) := by
  intro pins s σ H x y v u Q I rx ry h
  obtain ⟨d, ds, hd, he, sd, se, q⟩ := h
  obtain ⟨as, r1⟩ := Dp.reads I d x v hd rx
  obtain ⟨bs, r2⟩ := Dp.reads I (.tuple ds) y u he ry
  exact SeqAt.notIn_tuple_reads r2 r1 (SeqAt.canLay_of_shaped se) (SeqAt.canLay_of_shaped sd) (room_in_shaped sd hu) ⟨.bl _, H, I, rfl, q⟩
/-- one of a row, by a test of two -/
def isIn (f : α → α → Bool) (a : α) (l : List α) : Bool := l.any fun z => f z a
def memB [DecidableEq α] (a : α) (l : List α) : Bool := decide (a ∈ l)
theorem isIn_dec [DecidableEq α] (a : α) (l : List α) : isIn (fun a b => decide (a = b)) a l = memB a l := by
  unfold isIn memB
  rw [Bool.eq_iff_iff]
  simp
theorem any_py {K : PySem.W.Frag} {T : Ty K α} {P : Pd T} {f : α → α → Bool} (hq : PEq P P f) (a : α) : ∀ l : List α, ((l.map P.py).any fun z => PyData.eqv z (P.py a)) = isIn f a l
  | [] => rfl
  | b :: l => by
    have ih := any_py hq a l
    unfold isIn at ih ⊢
    rw [List.map_cons, List.any_cons, List.any_cons, ih, hq.eq]
variable {f : α → α → Bool} {ml : R ε (List α)}
theorem dq_inL (hq : PEq P P f) (hu : X.A.units + 65 < cLine) (h1 : P.d + 1 ≤ 64 := by decide) (ha : DE X J ρ e t (rV μ T) ma) (hb : DE X J ρ e' t' (rV ν (yLst T)) ml) (hm : behindInMarks .In e' = false := by rfl) :
    DQ X J ρ (.Compare e [.In] [e'] pos) (tOp (rInD X.K) t t') (ma.bind fun a => ml.bind fun l => .ok (isIn f a l)) :=
  dq_cmp (op_inD hu) hm ha hb fun b F σ H x y v w Q' S r1 r2 q => by
    obtain ⟨d1, l1⟩ := P.dp r1
    obtain ⟨d2, l2⟩ := (pLst P).dp r2
    exact ⟨_, _, Dp.mono (Md.le S μ) _ _ d1, Dp.mono (Md.le S ν) _ _ d2, shaped_of l1 (Nat.le_trans (P.dep x) (Nat.le_of_succ_le h1)), shaped_of l2 (Nat.le_trans ((pLst P).dep y) h1), by rw [any_py hq]; exact PostE.here q S rfl⟩
theorem dq_notInL (hq : PEq P P f) (hu : X.A.units + 65 < cLine) (h1 : P.d + 1 ≤ 64 := by decide) (ha : DE X J ρ e t (rV μ T) ma) (hb : DE X J ρ e' t' (rV ν (yLst T)) ml) (hm : behindInMarks .NotIn e' = false := by rfl) :
    DQ X J ρ (.Compare e [.NotIn] [e'] pos) (tOp (rNotInD X.K) t t') (ma.bind fun a => ml.bind fun l => .ok (!isIn f a l)) :=
  dq_cmp (op_notInD hu) hm ha hb fun b F σ H x y v w Q' S r1 r2 q => by
    obtain ⟨d1, l1⟩ := P.dp r1
    obtain ⟨d2, l2⟩ := (pLst P).dp r2
    exact ⟨_, _, Dp.mono (Md.le S μ) _ _ d1, Dp.mono (Md.le S ν) _ _ d2, shaped_of l1 (Nat.le_trans (P.dep x) (Nat.le_of_succ_le h1)), shaped_of l2 (Nat.le_trans ((pLst P).dep y) h1), by rw [any_py hq]; exact PostE.here q S rfl⟩
theorem dq_notInT (hq : PEq P P f) (hu : X.A.units + 65 < cLine) (h1 : P.d + 1 ≤ 64 := by decide) (ha : DE X J ρ e t (rV μ T) ma) (hb : DE X J ρ e' t' (rV ν (yTupOf T)) ml) (hm : behindInMarks .NotIn e' = false := by rfl) :
    DQ X J ρ (.Compare e [.NotIn] [e'] pos) (tOp (rNotInT X.K) t t') (ma.bind fun a => ml.bind fun l => .ok (!isIn f a l)) :=
  dq_cmp (op_notInT hu) hm ha hb fun b F σ H x y v w Q' S r1 r2 q => by
    obtain ⟨d1, l1⟩ := P.dp r1
    obtain ⟨d2, l2⟩ := (pTupOf P).dp r2
    exact ⟨_, _, Dp.mono (Md.le S μ) _ _ d1, Dp.mono (Md.le S ν) _ _ d2, shaped_of l1 (Nat.le_trans (P.dep x) (Nat.le_of_succ_le h1)), shaped_of l2 (Nat.le_trans ((pTupOf P).dep y) h1), by rw [any_py hq]; exact PostE.here q S rfl⟩
end
end Cp
namespace Cp
open PySem PySem.Spec L2
open PyProof.Rows hiding St
variable {K : PySem.W.Frag} {ε : Type}
section
variable {α : Type}
def rCatL (a c : List α) : R ε (List α) := if a.length + c.length ≤ sizeLine then .ok (a ++ c) else .bad
def rRepL (a : List α) (k : Int) : R ε (List α) := if (-(2 ^ 63) ≤ k ∧ k < 2 ^ 63) ∧ a.length * k.toNat ≤ sizeLine then .ok (List.replicate k.toNat a).flatten else .bad
def rLenS (a : Str) : R ε Int := if a.length ≤ sizeLine then .ok (a.length : Int) else .bad
def rApp (l : List α) (a : α) : R ε α := if l.length < sizeLine then .ok a else .bad
end
section
variable {α β γ : Type}
theorem Eval.cb {J : Jc K ε} {U : Tys K α} {P : Rk K β} {ρ : Ev K} {ta : TA} {m : R ε α} {r : List V → Hp → VK → Prop} {f : α → R ε β} (ha : EvalA J ta ρ U m)
    (hr : ∀ (b : B) (F : Hp) (σ : St) (H : Hp) (x : α) (v : List V) (Q : VK), Sta b ρ F σ H → U.rel x (Gh ρ σ F H) v → PostE J b ρ P F σ H Q (f x) → r v H Q) : Eval J (tCB r ta) ρ P (m.bind f) :=
  fun b F σ H Q S q => ha.then_ S q fun a F1 v H1 g1 S1 r1 q1 => hr b F1 σ H1 a v Q S1 r1 q1
variable {X : Cx} {J : Jc X.K ε} {ρ : Ev X.K} {e e' : Expr} {es : List Expr} {t t' : TE} {ta : TA} {pos p : Pos} {μ ν : Md} {T : Ty X.K α} {m : R ε α}
theorem de_callB {id : String} {x : Str} {r : List V → Hp → VK → Prop} {U : Tys X.K α} {P : Rk X.K β} {f : α → R ε β} (hc : CallR X (.builtin id) r) (hg : Gl X x) (hm : X.mg x = none) (hv : bootBuiltins x = some (.builtin id)) (ha : DA X J ρ (e :: es) ta U m)
    (hr : ∀ (b : B) (F : Hp) (σ : St) (H : Hp) (x : α) (v : List V) (Q : VK), Sta b ρ F σ H → U.rel x (Gh ρ σ F H) v → PostE J b ρ P F σ H Q (f x) → r v H Q)
    (hn : x ≠ "__name__" := by decide) (hdb : (x == ("__debug__" : Str)) = false := by decide) (he : starEach (e :: es) X.env = (false, eval e X.env) :: starEach es X.env := by rfl) (hpl : (backTo pos (starEach es X.env)).any (·.1) = false := by rfl) :
    DE X J ρ (.Call (.Name x p) (e :: es) [] pos) (tCB r ta) P (m.bind f) := ⟨pe_callB hc hg hm hv ha.pa hn hdb he hpl, Eval.cb ha.ev hr⟩
theorem de_callTy {T : String} {x : Str} {r : List V → Hp → VK → Prop} {U : Tys X.K α} {P : Rk X.K β} {f : α → R ε β} (hc : CallR X (.type T) r) (hg : Gl X x) (hm : X.mg x = none) (hv : bootBuiltins x = some (.type T)) (ha : DA X J ρ (e :: es) ta U m)
    (hr : ∀ (b : B) (F : Hp) (σ : St) (H : Hp) (x : α) (v : List V) (Q : VK), Sta b ρ F σ H → U.rel x (Gh ρ σ F H) v → PostE J b ρ P F σ H Q (f x) → r v H Q)
    (hn : x ≠ "__name__" := by decide) (hdb : (x == ("__debug__" : Str)) = false := by decide) (he : starEach (e :: es) X.env = (false, eval e X.env) :: starEach es X.env := by rfl) (hpl : (backTo pos (starEach es X.env)).any (·.1) = false := by rfl) :
    DE X J ρ (.Call (.Name x p) (e :: es) [] pos) (tCB r ta) P (m.bind f) := ⟨pe_callTy hc hg hm hv ha.pa hn hdb he hpl, Eval.cb ha.ev hr⟩
/-- how long a thing is -/
structure Len {α : Type} (T : Ty K α) (n : α → Nat) : Prop where
  len : ∀ {a : α} {F H : Hp} {v : V}, Same F H → T.rel a F v → LenV K v H (n a)
end
section
variable {α β γ : Type} {T : Ty K α}
theorem len_lst : Len (yLst T) List.length := ⟨fun {a F H v} e ⟨p, xs, h1, h2, h3⟩ => by subst h1; exact .inl ⟨xs, .of (e _ _ h2), (Paired.length h3).symm⟩⟩
theorem len_scr : Len (yScr T) List.length := ⟨fun {a F H v} e ⟨p, xs, h1, h2, h3⟩ => by subst h1; exact .inl ⟨xs, Same.seq e h2, (Paired.length h3).symm⟩⟩
end
section
variable {α β γ : Type} {X : Cx} {J : Jc X.K ε} {ρ : Ev X.K} {e e' : Expr} {es : List Expr} {t t' : TE} {ta : TA} {pos p : Pos} {μ ν : Md} {T : Ty X.K α} {m : R ε α}
theorem de_len {n : α → Nat} (hl : Len T n) (hg : Gl X "len") (hm : X.mg "len" = none) (ha : DE X J ρ e t (rV μ T) m) (he : starEach [e] X.env = (false, eval e X.env) :: starEach [] X.env := by rfl) :
    DE X J ρ (.Call (.Name "len" p) [e] [] pos) (tCB (fun xs H Q => ∃ x n, xs = [x] ∧ LenV X.K x H n ∧ Q (.int n) H) (tCons t tNil)) (rP yInt) (m.bind fun a => .ok (n a : Int)) :=
  de_callB call_len hg hm PySem.boot_len (da_one ha he) (fun b F σ H x v Q S ⟨w, e1, r⟩ q => ⟨w, _, e1, hl.len (Gh.le S.fh) r, PostE.here q S rfl⟩) (he := he)
/-- of a text: below the line -/
theorem de_lenS {m : R ε Str} (hg : Gl X "len") (hm : X.mg "len" = none) (ha : DE X J ρ e t (rV μ yStr) m) (he : starEach [e] X.env = (false, eval e X.env) :: starEach [] X.env := by rfl) :
    DE X J ρ (.Call (.Name "len" p) [e] [] pos) (tCB (fun xs H Q => ∃ x n, xs = [x] ∧ LenV X.K x H n ∧ Q (.int n) H) (tCons t tNil)) (rP yInt) (m.bind fun a => rLenS a) :=
  de_callB call_len hg hm PySem.boot_len (da_one ha he) (fun b F σ H x v Q S ⟨w, e1, r⟩ q => by
    obtain ⟨r, _⟩ := r
    subst r
    unfold rLenS at q
    by_cases hz : x.length ≤ sizeLine
    · rw [if_pos hz] at q
      exact ⟨_, _, e1, ⟨hz, rfl⟩, PostE.here q S rfl⟩
    · rw [if_neg hz] at q; exact q.elim) (he := he)
theorem de_int1 {m : R ε Int} (hg : Gl X "int") (hm : X.mg "int" = none) (ha : DE X J ρ e t (rV μ yInt) m) (he : starEach [e] X.env = (false, eval e X.env) :: starEach [] X.env := by rfl) :
    DE X J ρ (.Call (.Name "int" p) [e] [] pos) (tCB (fun xs H Q => (∃ i, xs = [.int i] ∧ Q (.int i) H) ∨ ∃ k, xs = [.bl k] ∧ Q (.int (if k then 1 else 0)) H) (tCons t tNil)) (rP yInt) m :=
  (de_callTy call_int1 hg hm boot_int (da_one ha he) (fun b F σ H x v Q S ⟨w, e1, r⟩ q => by cases r; exact .inl ⟨_, e1, PostE.here q S rfl⟩) (he := he)).cast (bindok _)
theorem de_abs {m : R ε Int} (hg : Gl X "abs") (hm : X.mg "abs" = none) (ha : DE X J ρ e t (rV μ yInt) m) (he : starEach [e] X.env = (false, eval e X.env) :: starEach [] X.env := by rfl) :
    DE X J ρ (.Call (.Name "abs" p) [e] [] pos) (tCB (fun xs H Q => ∃ i, xs = [.int i] ∧ Q (.int (if i < 0 then -i else i)) H) (tCons t tNil)) (rP yInt) (m.bind fun i => .ok (if i < 0 then -i else i)) :=
  de_callB call_abs hg hm (by decide +kernel) (da_one ha he) (fun b F σ H x v Q S ⟨w, e1, r⟩ q => by cases r; exact ⟨_, e1, PostE.here q S rfl⟩) (he := he)
theorem de_max2 {m n : R ε Int} (hc : X.calm = true) (hg : Gl X "max") (hm : X.mg "max" = none) (ha : DE X J ρ e t (rV μ yInt) m) (hb : DE X J ρ e' t' (rV ν yInt) n) (he : starEach [e, e'] X.env = (false, eval e X.env) :: starEach [e'] X.env := by rfl) (he2 : starEach [e'] X.env = (false, eval e' X.env) :: starEach [] X.env := by rfl) (hpl : (backTo pos (starEach [e'] X.env)).any (·.1) = false := by rfl) :
    DE X J ρ (.Call (.Name "max" p) [e, e'] [] pos) (tCB (fun xs H Q => ∃ i j, xs = [.int i, .int j] ∧ Q (.int (if j > i then j else i)) H) (tCons t (tCons t' tNil))) (rP yInt) ((m.bind fun i => n.bind fun j => .ok (i, j)).bind fun p => .ok (if p.2 > p.1 then p.2 else p.1)) :=
  de_callB (call_max2 hc) hg hm (by decide +kernel) (da_cons ha (da_one hb he2) he) (fun b F σ H x v Q S ⟨w, vs, e1, r1, w2, e2, r2⟩ q => by cases r1; cases r2; subst e2; exact ⟨_, _, e1, PostE.here q S rfl⟩) (he := he) (hpl := hpl)
/-- items in a list or tuple that are leant on or borrowed; what is made of them is plain where they hold no lists -/
theorem all_back {b : B} {F : Hp} {σ : St} {H : Hp} (hi : T.imm) (S : Sta b ρ F σ H) : ∀ (μ : Md) {l : List α} {xs : List V}, T.all l (μ.hp ρ σ F H) xs → T.all l F xs
  | .p, _, _, r => r
  | .b, _, _, r => imm_all hi (fun p o e nl => by
    have e : Gh ρ σ F H p = some o := e
    unfold Gh at e
    cases q : F p with
    | some u => rw [q] at e; exact e
    | none =>
      rw [q] at e
      simp only at e
      split at e
      case isFalse => cases e
      case isTrue y =>
        obtain ⟨i, s, y1, y2, y3⟩ := y
        obtain ⟨v, y4, y5⟩ := S.sl i s y1
        rw [y3] at y4; cases y4
        cases s with
        | pl T a => cases y2
        | ow C a =>
          obtain ⟨p', o', e1, e2, _, _, e5⟩ := y5
          cases e1
          rw [e] at e2; cases e2
          exact (nl (C.mu e5)).elim) r
theorem rel_back {b : B} {F : Hp} {σ : St} {H : Hp} (hi : T.imm) (S : Sta b ρ F σ H) (μ : Md) {a : α} {v : V} (r : T.rel a (μ.hp ρ σ F H) v) : T.rel a F v := by
  have h : T.all [a] (μ.hp ρ σ F H) [v] := .cons r .nil
  cases all_back hi S μ h with
  | cons r _ => exact r
/-- borrowed data without lists in it is data -/
theorem DE.bp (h : DE X J ρ e t (rB T) m) (hi : T.imm) : DE X J ρ e t (rP T) m :=
  ⟨h.pe, fun b F σ H Q S q => h.ev b F σ H Q S (PostE.conv (f := id) (by rw [show (m.bind fun a => R.ok (id a)) = m from bindok m]; exact q) fun g S' r => ⟨_, g, S', rel_back hi S' .b r⟩)⟩
/-- a list or a tuple -/
structure Sq {α : Type} (T : Ty K α) (U : Ty K (List α)) : Prop where
  sq : ∀ {a : List α} {F H : Hp} {v : V}, Same F H → U.rel a F v → ∃ p xs, v = .ref p ∧ (SqL K H p xs ∨ SqT K H p xs) ∧ T.all a F xs
theorem sq_lst {T : Ty K α} : Sq T (yLst T) := ⟨fun e ⟨p, xs, h1, h2, h3⟩ => ⟨p, xs, h1, .inl (.of (e _ _ h2)), h3⟩⟩
theorem sq_tupOf {T : Ty K α} : Sq T (yTupOf T) := ⟨fun e ⟨p, xs, h1, h2, h3⟩ => ⟨p, xs, h1, .inr (Same.sqt e h2), h3⟩⟩
variable {U : Ty X.K (List α)} {ml ml' : R ε (List α)}
theorem new_lst {b : B} {F : Hp} {σ : St} {H : Hp} {Q : VK} {l : List α} {xs : List V} (S : Sta b ρ F σ H) (r : T.all l F xs) (q : PostE J b ρ (rF (cLst T)) F σ H Q (.ok l)) : ∀ p, H p = none → Q (.ref p) (upd H p (.lst xs)) :=
  fun p hp => q F _ _ (Gr.newH hp) (S.newH hp) ⟨p, _, rfl, hp, upd_same, S.freshF hp, xs, rfl, r⟩
theorem new_tup {b : B} {F : Hp} {σ : St} {H : Hp} {Q : VK} {l : List α} {xs : List V} (S : Sta b ρ F σ H) (r : T.all l F xs) (q : PostE J b ρ (rP (yTupOf T)) F σ H Q (.ok l)) : ∀ p, H p = none → Q (.ref p) (upd H p (.tup xs)) :=
  fun p hp => q _ _ _ (Gr.new S.fh hp) (S.new hp) ⟨p, xs, rfl, .of upd_same, Ty.all_mono (same_upd (S.freshF hp)) r⟩
theorem de_list1 (hs : Sq T U) (hi : T.imm) (hg : Gl X "list") (hm : X.mg "list" = none) (ha : DE X J ρ e t (rV μ U) ml) (he : starEach [e] X.env = (false, eval e X.env) :: starEach [] X.env := by rfl) :
    DE X J ρ (.Call (.Name "list" p) [e] [] pos) (tCB (fun xs H Q => ∃ p ys, xs = [.ref p] ∧ (SqL X.K H p ys ∨ SqT X.K H p ys) ∧ ∀ l, H l = none → Q (.ref l) (upd H l (.lst ys))) (tCons t tNil)) (rF (cLst T)) ml :=
  (de_callTy call_list_of hg hm (by decide +kernel) (da_one ha he) (fun b F σ H x v Q S ⟨w, e1, r⟩ q => by
    obtain ⟨p, xs, h1, h2, h3⟩ := hs.sq (Gh.le S.fh) r
    subst h1
    exact ⟨p, xs, e1, h2, new_lst S (all_back hi S .b h3) q⟩) (he := he)).cast (bindok _)
theorem de_tupleL {T : Ty X.K α} {ml : R ε (List α)} (hi : T.imm) (hg : Gl X "tuple") (hm : X.mg "tuple" = none) (ha : DE X J ρ e t (rV μ (yLst T)) ml) (he : starEach [e] X.env = (false, eval e X.env) :: starEach [] X.env := by rfl) :
    DE X J ρ (.Call (.Name "tuple" p) [e] [] pos) (tCB (fun xs H Q => ∃ p ys, xs = [.ref p] ∧ ((SqL X.K H p ys ∧ ∀ l, H l = none → Q (.ref l) (upd H l (.tup ys))) ∨ (SqT X.K H p ys ∧ Q (.ref p) H))) (tCons t tNil)) (rP (yTupOf T)) ml :=
  (de_callTy call_tuple_of hg hm (by decide +kernel) (da_one ha he) (fun b F σ H x v Q S ⟨w, e1, r⟩ q => by
    obtain ⟨p, xs, h1, h2, h3⟩ := r
    subst h1
    exact ⟨p, xs, e1, .inl ⟨.of (Gh.le S.fh _ _ h2), new_tup S (all_back hi S .b h3) q⟩⟩) (he := he)).cast (bindok _)
/-- xs + ys -/
theorem de_catL {T : Ty X.K α} {ml ml' : R ε (List α)} (hi : T.imm) (ha : DE X J ρ e t (rV μ (yLst T)) ml) (hb : DE X J ρ e' t' (rV ν (yLst T)) ml') :
    DE X J ρ (.BinOp e .Add e' pos) (tOp rCat t t') (rF (cLst T)) (ml.bind fun a => ml'.bind fun c => rCatL a c) :=
  ⟨pe_op op_cat ha.pe hb.pe, ha.ev.op2 hb.ev fun b F σ H x y v w Q S r1 r2 q => by
    obtain ⟨p, xs, rfl, h2, h3⟩ := r1
    obtain ⟨p', xs', rfl, h2', h3'⟩ := r2
    unfold rCatL at q
    by_cases hz : x.length + y.length ≤ sizeLine
    · rw [if_pos hz] at q
      exact ⟨p, p', xs, xs', rfl, rfl, Md.le S μ _ _ h2, Md.le S ν _ _ h2', by rw [Paired.length h3, Paired.length h3']; exact hz, new_lst S (prd_app (all_back hi S μ h3) (all_back hi S ν h3')) q⟩
    · rw [if_neg hz] at q; exact q.elim⟩
/-- xs * k -/
theorem de_rep {T : Ty X.K α} {mi : R ε Int} {ml : R ε (List α)} (hi : T.imm) (ha : DE X J ρ e t (rV μ (yLst T)) ml) (hb : DE X J ρ e' t' (rV ν yInt) mi) :
    DE X J ρ (.BinOp e .Mult e' pos) (tOp rRep t t') (rF (cLst T)) (ml.bind fun a => mi.bind fun k => rRepL a k) :=
  ⟨pe_op op_rep ha.pe hb.pe, ha.ev.op2 hb.ev fun b F σ H x k v w Q S r1 r2 q => by
    obtain ⟨p, xs, rfl, h2, h3⟩ := r1
    cases r2
    unfold rRepL at q
    by_cases hz : (-(2 ^ 63) ≤ k ∧ k < 2 ^ 63) ∧ x.length * k.toNat ≤ sizeLine
    · rw [if_pos hz] at q
      exact ⟨p, k, xs, rfl, rfl, Md.le S μ _ _ h2, hz.1.1, hz.1.2, by rw [Paired.length h3]; exact hz.2, new_lst S (prd_rep (all_back hi S μ h3) _) q⟩
    · rw [if_neg hz] at q; exact q.elim⟩
/-- xs[::-1] -/
theorem de_rev {T : Ty X.K α} {ml : R ε (List α)} {k : Nat} {p1 p2 p3 : Pos} (hi : T.imm) (ha : DE X J ρ e t (rV μ (yLst T)) ml) :
    DE X J ρ (.Subscript e (.Slice none none (some (.UnaryOp .USub (.Constant (.int 1) k p1) p2)) p3) pos) (tRevL X.K t) (rF (cLst T)) (ml.bind fun a => .ok a.reverse) :=
  ⟨pe_revL ha.pe, fun b F σ H Q S q => ha.ev.then_ S q fun a F1 v H1 g1 S1 r1 q1 => by
    obtain ⟨p, xs, rfl, h2, h3⟩ := r1
    exact ⟨p, xs, rfl, .of (Md.le S1 μ _ _ h2), new_lst S1 (prd_rev (all_back hi S1 μ h3)) q1⟩⟩
def cut {α : Type} (l : List α) (lo hi : Option Int) : List α := (l.drop (HT.sIx l.length 0 lo)).take (HT.sIx l.length l.length hi - HT.sIx l.length 0 lo)
theorem prd_cut {α β : Type} {F : α → β → Prop} {xs : List α} {us : List β} (h : Paired F xs us) (lo hi : Option Int) : Paired F (cut xs lo hi) (cut us lo hi) := by
  unfold cut
  rw [Paired.length h]
  exact prd_take _ (prd_drop _ h)
/-- a bound of a slice -/
structure DO (X : Cx) (J : Jc X.K ε) (ρ : Ev X.K) (e : Option Expr) (t : TO) (m : R ε (Option Int)) : Prop where
  po : PO X e t
  ev : ∀ (b : B) (F : Hp) (σ : St) (H : Hp) (Q : Option Int → Hp → Prop), Sta b ρ F σ H → (match m with
    | .ok a => ∀ F' H', Gr F H F' H' → Sta b ρ F' σ H' → Q a H'
    | .exn e => Pex J b e
    | .bad => False) → t σ H Q
theorem do_none : DO X J ρ none tNoPart (.ok none) := ⟨po_none, fun b F σ H Q S q => q F H (Gr.refl _ _) S⟩
theorem do_some {mi : R ε Int} (h : DE X J ρ e t (rV μ yInt) mi) : DO X J ρ (some e) (tPart t) (mi.bind fun i => .ok (some i)) :=
  ⟨po_some h.pe, fun b F σ H Q S q => h.ev b F σ H _ S (by
    cases mi with
    | ok a => exact fun F' v H' g S' r => ⟨a, r, q F' H' g S'⟩
    | exn e => exact q
    | bad => exact q)⟩
theorem DO.then_ {ρ : Ev X.K} {b : B} {F : Hp} {σ : St} {H : Hp} {Q : VK} {P : Rk X.K β} {lo : Option Expr} {to : TO} {m : R ε (Option Int)} {k : Option Int → R ε β} {R' : Option Int → Hp → Prop} (h : DO X J ρ lo to m) (S : Sta b ρ F σ H) (q : PostE J b ρ P F σ H Q (m.bind k))
    (hk : ∀ a F' H', Gr F H F' H' → Sta b ρ F' σ H' → PostE J b ρ P F' σ H' Q (k a) → R' a H') : to σ H R' := by
  refine h.ev b F σ H R' S ?_
  cases m with
  | ok a => exact fun F' H' g S' => hk a F' H' g S' (PostE.later g q)
  | exn e => exact q
  | bad => exact q
variable {lo hi : Option Expr} {tl th : TO} {m1 m2 : R ε (Option Int)} {p2 : Pos}
theorem de_sliceL {T : Ty X.K α} {ml : R ε (List α)} (im : T.imm) (ha : DE X J ρ e t (rV μ (yLst T)) ml) (hl : DO X J ρ lo tl m1) (hh : DO X J ρ hi th m2) :
    DE X J ρ (.Subscript e (.Slice lo hi none p2) pos) (tSl (rSlL X.K) t tl th) (rF (cLst T)) (ml.bind fun a => m1.bind fun i => m2.bind fun j => .ok (cut a i j)) :=
  ⟨pe_slice sl_list ha.pe hl.po hh.po, fun b F σ H Q S q => ha.ev.then_ S q fun a F1 v H1 g1 S1 r1 q1 => hl.then_ S1 q1 fun i F2 H2 g2 S2 q2 => hh.then_ S2 q2 fun j F3 H3 g3 S3 q3 => by
    have r3 := Ty.mono (yLst T) (Md.mono (g2.trans g3) S1 μ) r1
    obtain ⟨p, xs, rfl, h2, h3⟩ := r3
    exact ⟨p, xs, rfl, .of (Md.le S3 μ _ _ h2), new_lst S3 (prd_cut (all_back im S3 μ h3) i j) q3⟩⟩
theorem dt_not {tc : TT} {mc : R ε Bool} (h : DT X J ρ e tc mc) : DT X J ρ (.UnaryOp .Not e pos) (tNot tc) (mc.bind fun c => .ok (!c)) :=
  ⟨pt_not h.pt, fun b F σ H Q S q => h.ev.thenT S q fun c F' H' g S' q' => q' F' H' (Gr.refl _ _) S'⟩
structure DW (X : Cx) (J : Jc X.K ε) (ρ : Ev X.K) (e : Expr) (t : TT) (m : R ε Bool) : Prop where
  pw : PW X e t
  ev : EvalT J t ρ m
theorem DW.dt {tc : TT} {mc : R ε Bool} (h : DW X J ρ e tc mc) : DT X J ρ e tc mc := ⟨h.pw.pt, h.ev⟩
variable {tc td : TT} {mc md : R ε Bool} {rest : List Expr}
theorem dw_and1 (h : DT X J ρ e tc mc) : DW X J ρ (.BoolOp .And [e] pos) tc mc := ⟨pw_and1 h.pt, h.ev⟩
theorem dw_or1 (h : DT X J ρ e tc mc) : DW X J ρ (.BoolOp .Or [e] pos) tc mc := ⟨pw_or1 h.pt, h.ev⟩
theorem dw_and (h : DT X J ρ e tc mc) (h2 : DW X J ρ (.BoolOp .And (e' :: rest) pos) td md) : DW X J ρ (.BoolOp .And (e :: e' :: rest) pos) (tAnd tc td) (mc.bind fun c => if c then md else .ok false) :=
  ⟨pw_and h.pt h2.pw, fun b F σ H Q S q => h.ev.thenT S q fun c F' H' g S' q' => by
    cases c with
    | true => rw [if_pos rfl] at q' ⊢; exact h2.ev b F' σ H' Q S' q'
    | false => rw [if_neg Bool.false_ne_true] at q' ⊢; exact q' F' H' (Gr.refl _ _) S'⟩
theorem dw_or (h : DT X J ρ e tc mc) (h2 : DW X J ρ (.BoolOp .Or (e' :: rest) pos) td md) : DW X J ρ (.BoolOp .Or (e :: e' :: rest) pos) (tOr tc td) (mc.bind fun c => if c then .ok true else md) :=
  ⟨pw_or h.pt h2.pw, fun b F σ H Q S q => h.ev.thenT S q fun c F' H' g S' q' => by
    cases c with
    | false => rw [if_neg Bool.false_ne_true] at q' ⊢; exact h2.ev b F' σ H' Q S' q'
    | true => rw [if_pos rfl] at q' ⊢; exact q' F' H' (Gr.refl _ _) S'⟩
variable {mb : R ε Bool}
theorem de_not {m : R ε Bool} (h : DE X J ρ e t (rP yBl) m) : DE X J ρ (.UnaryOp .Not e pos) (tNotV t) (rP yBl) (m.bind fun c => .ok (!c)) :=
  ⟨pe_not h.pe, fun b F σ H Q S q => h.ev.then_ S q fun c F' v H' g S' r q' => ⟨c, r, PostE.here q' S' rfl⟩⟩
theorem de_one {op : BoolOp} {m : R ε Bool} (h : DE X J ρ e t (rP yBl) m) : DE X J ρ (.BoolOp op [e] pos) t (rP yBl) m := ⟨pe_one h.pe, h.ev⟩
theorem de_and {m : R ε Bool} (h : DE X J ρ e t (rP yBl) m) (h2 : DE X J ρ (.BoolOp .And (e' :: rest) pos) t' (rP yBl) mb) : DE X J ρ (.BoolOp .And (e :: e' :: rest) pos) (tAndV t t') (rP yBl) (m.bind fun c => if c then mb else .ok false) :=
  ⟨pe_and h.pe h2.pe, fun b F σ H Q S q => h.ev.then_ S q fun c F' v H' g S' r q' => ⟨c, r, by
    cases c with
    | true => rw [if_pos rfl] at q' ⊢; exact h2.ev b F' σ H' Q S' q'
    | false => rw [if_neg Bool.false_ne_true] at q' ⊢; exact PostE.here q' S' rfl⟩⟩
/-- a chain a < b < c of ints -/
theorem dq_chain {op op' : CmpOp} {p p' : Int → Int → Bool} {e3 : Expr} {t3 : TE} {m1 m2 m3 : R ε Int} {ξ : Md} (ho : OpR X (compareOp op) (rI0 fun i j => .bl (p i j))) (ho' : OpR X (compareOp op') (rI0 fun i j => .bl (p' i j)))
    (ha : DE X J ρ e t (rV μ yInt) m1) (hb : DE X J ρ e' t' (rV ν yInt) m2) (hc : DE X J ρ e3 t3 (rV ξ yInt) m3)
    (hm : lastMarks [op, op'] [e', e3] = false := by with_unfolding_all rfl) :
    DQ X J ρ (.Compare e [op, op'] [e', e3] pos) (tChain (rI0 fun i j => .bl (p i j)) (rI0 fun i j => .bl (p' i j)) t t' t3) (m1.bind fun i => m2.bind fun j => if p i j then m3.bind fun k => .ok (p' j k) else .ok false) :=
  ⟨pe_chain ho ho' ha.pe hb.pe hc.pe hm, pt_chain ho ho' ha.pe hb.pe hc.pe hm, fun b F σ H Q S q => ha.ev.then_ S q fun i F1 v H1 g1 S1 r1 q1 => hb.ev.then_ S1 q1 fun j F2 w H2 g2 S2 r2 q2 => by
    cases r1; cases r2
    refine ⟨i, j, rfl, rfl, p i j, rfl, ?_⟩
    cases hp : p i j with
    | true =>
      rw [hp, if_pos rfl] at q2
      rw [if_pos rfl]
      exact hc.ev.then_ S2 q2 fun k F3 u H3 g3 S3 r3 q3 => by cases r3; exact ⟨j, k, rfl, rfl, PostE.here q3 S3 rfl⟩
    | false =>
      rw [hp, if_neg Bool.false_ne_true] at q2
      rw [if_neg Bool.false_ne_true]
      exact PostE.here q2 S2 rfl⟩
/-- what isinstance(x, cls) says of data of a type -/
structure Isi {α : Type} (K : PySem.W.Frag) (T : Ty K α) (cls : String) (f : α → Bool) : Prop where
  is : ∀ {a : α} {F H : Hp} {v : V}, Same F H → T.rel a F v → ∃ t, TyX K H v t ∧ PySem.W.kitOne K t (.type cls) = some (f a)
theorem dq_isi {cls : String} {f : α → Bool} {c : Str} {q : Pos} (hi : Isi X.K T cls f) (hg : Gl X "isinstance") (hm : X.mg "isinstance" = none) (hv : bootBuiltins "isinstance" = some (.builtin "isinstance"))
    (gc : Gl X c) (mc : X.mg c = none) (vc : bootBuiltins c = some (.type cls)) (ha : DE X J ρ e t (rV μ T) m) (nc : c ≠ "__name__" := by decide) (dc : (c == ("__debug__" : Str)) = false := by decide)
    (he : starEach [e, .Name c q] X.env = (false, eval e X.env) :: starEach [.Name c q] X.env := by rfl) (he2 : starEach [.Name c q] X.env = (false, eval (.Name c q) X.env) :: starEach [] X.env := by rfl) (hpl : (backTo pos (starEach [.Name c q] X.env)).any (·.1) = false := by rfl) 
    (ht : ∀ whole, isTrue (.Call (.Name "isinstance" p) [e, .Name c q] [] pos) X.env whole = (do let v ← whole; standAt (Expr.Call (.Name "isinstance" p) [e, .Name c q] [] pos).pos; holding [v] (truthy v)) := by intro _; rfl) :
    DQ X J ρ (.Call (.Name "isinstance" p) [e, .Name c q] [] pos) (tCB (rIsi X.K) (tCons t (tCons (tC (.ty cls)) tNil))) (m.bind fun a => .ok (f a)) :=
  dq_val ⟨pe_callB call_isi hg hm hv (pa_cons ha.pe (pa_cons (pe_bltn gc mc vc rfl nc dc) pa_nil he2) he) (by decide) (by decide) he hpl, fun b F σ H Q S q => ha.ev.then_ S q fun a F1 v H1 g1 S1 r1 q1 => by
    obtain ⟨t, h1, h2⟩ := hi.is (Md.le S1 μ) r1
    exact ⟨v, .ty cls, t, _, _, rfl, .ty cls, h1, h2, PostE.here q1 S1 rfl⟩⟩ ht
end
section
variable {α β : Type}
theorem isi_int {cls : String} {b : Bool} (h : kitB "int" cls = some b := by decide +kernel) : Isi K (yInt (K := K)) cls (fun _ => b) := ⟨fun {a F H v} _ r => by cases r; exact ⟨_, .base (.int _), kit_ty h⟩⟩
theorem tyx_tup {F H : Hp} {p : Addr} {xs : List V} (e : Same F H) (h : SqT K F p xs) : TyX K H (.ref p) (.type "tuple") := by
  rcases h with (h | ⟨o, h⟩) | ⟨o, its, n, h1, h2, _⟩
  · exact .base (.tup (e _ _ h))
  · exact .fTuple (e _ _ h)
  · exact .kTuple h1 h2
theorem isi_lst {T : Ty K α} {cls : String} {b : Bool} (h : kitB "list" cls = some b := by decide +kernel) : Isi K (yLst T) cls (fun _ => b) := ⟨fun {a F H v} e ⟨p, xs, h1, h2, h3⟩ => by subst h1; exact ⟨_, .base (.lst (e _ _ h2)), kit_ty h⟩⟩
theorem isi_tup {U : Tys K α} {cls : String} {b : Bool} (h : kitB "tuple" cls = some b := by decide +kernel) : Isi K (yTup U) cls (fun _ => b) := ⟨fun {a F H v} e ⟨p, xs, h1, h2, h3⟩ => by subst h1; exact ⟨_, tyx_tup e h2, kit_ty h⟩⟩
def optB {α : Type} (b : Bool) (f : α → Bool) : Option α → Bool
  | none => b
  | some x => f x
theorem isi_opt {T : Ty K α} {cls : String} {f : α → Bool} {b : Bool} (h : kitB "NoneType" cls = some b := by decide +kernel) (hi : Isi K T cls f) : Isi K (yOpt T) cls (optB b f) := ⟨fun {a F H v} e r => by
  cases a with
  | none => cases (show v = V.non from r); exact ⟨_, .base .non, kit_ty h⟩
  | some x => exact hi.is e r.1⟩
end
end Cp
namespace Cp
open PySem PySem.Spec L2
open PyProof.Rows hiding St
variable {K : PySem.W.Frag} {ε : Type}
section
variable {α β γ : Type} {X : Cx} {J : Jc X.K ε} {ρ : Ev X.K} {e e' : Expr} {es : List Expr} {t t' : TE} {ta : TA} {pos p : Pos} {μ ν : Md} {T : Ty X.K α} {ml : R ε (List α)} {tg : Expr}
theorem Eval.thenI {J : Jc K ε} {ρ : Ev K} {P : Rk K β} {T : Ty K α} {b : B} {F : Hp} {σ : St} {H : Hp} {Q : It → Hp → Prop} {t : TE} {m : R ε β} {k : β → R ε (List α)} {R' : VK} (h : Eval J t ρ P m) (S : Sta b ρ F σ H) (q : PostI J b ρ T F σ H Q (m.bind k))
    (hk : ∀ a F' v H', Gr F H F' H' → Sta b ρ F' σ H' → P.at_ ρ σ H F' H' a v → PostI J b ρ T F' σ H' Q (k a) → R' v H') : t σ H R' := by
  refine h b F σ H R' S ?_
  cases m with
  | ok a =>
    intro F' v H' g S' r
    refine hk a F' v H' g S' r ?_
    revert q
    show PostI J b ρ T F σ H Q (k a) → _
    generalize k a = z
    intro q
    cases z with
    | ok l => exact fun F'' H'' Jt g' => q F'' H'' Jt (g.trans g')
    | exn e => exact q
    | bad => exact q
  | exn e => exact q
  | bad => exact q
theorem EvalA.thenI {J : Jc K ε} {ρ : Ev K} {U : Tys K β} {T : Ty K α} {b : B} {F : Hp} {σ : St} {H : Hp} {Q : It → Hp → Prop} {t : TA} {m : R ε β} {k : β → R ε (List α)} {R' : List V → Hp → Prop} (h : EvalA J t ρ U m) (S : Sta b ρ F σ H) (q : PostI J b ρ T F σ H Q (m.bind k))
    (hk : ∀ a F' v H', Gr F H F' H' → Sta b ρ F' σ H' → U.rel a (Gh ρ σ F' H') v → PostI J b ρ T F' σ H' Q (k a) → R' v H') : t σ H R' := by
  refine h b F σ H R' S ?_
  cases m with
  | ok a =>
    intro F' v H' g S' r
    refine hk a F' v H' g S' r ?_
    revert q
    show PostI J b ρ T F σ H Q (k a) → _
    generalize k a = z
    intro q
    cases z with
    | ok l => exact fun F'' H'' Jt g' => q F'' H'' Jt (g.trans g')
    | exn e => exact q
    | bad => exact q
  | exn e => exact q
  | bad => exact q
theorem EvalAp.thenI {J : Jc K ε} {ρ : Ev K} {U : Tys K β} {T : Ty K α} {b : B} {F : Hp} {σ : St} {H : Hp} {Q : It → Hp → Prop} {t : TA} {m : R ε β} {k : β → R ε (List α)} {R' : List V → Hp → Prop} (h : EvalAp J t ρ U m) (S : Sta b ρ F σ H) (q : PostI J b ρ T F σ H Q (m.bind k))
    (hk : ∀ a F' v H', Gr F H F' H' → Sta b ρ F' σ H' → U.rel a F' v → PostI J b ρ T F' σ H' Q (k a) → R' v H') : t σ H R' := by
  refine h b F σ H R' S ?_
  cases m with
  | ok a =>
    intro F' v H' g S' r
    refine hk a F' v H' g S' r ?_
    revert q
    show PostI J b ρ T F σ H Q (k a) → _
    generalize k a = z
    intro q
    cases z with
    | ok l => exact fun F'' H'' Jt g' => q F'' H'' Jt (g.trans g')
    | exn e => exact q
    | bad => exact q
  | exn e => exact q
  | bad => exact q
theorem PostI.here {b : B} {F : Hp} {σ : St} {H : Hp} {Q : It → Hp → Prop} {l : List α} {Jt : It} (q : PostI J b ρ T F σ H Q (.ok l)) (S : Sta b ρ F σ H) (w : Walks Jt T l F) : Q Jt H := q F H Jt (Gr.refl _ _) S w
theorem walks_list {p : Addr} {l : List α} {F0 : Hp} {xs : List V} (h : F0 p = some (.lst xs)) (r : T.all l F0 xs) : Walks (Itl X.K p) T l F0 := fun i F H h1 h2 => by
  have hl := Paired.length r
  have sq : SqL X.K H p xs := .of (h2 _ _ (h1 _ _ h))
  refine ⟨fun hi => ?_, fun hi => ⟨xs, sq, by omega⟩⟩
  obtain ⟨v, e1, e2⟩ := all_get r (List.getElem?_eq_getElem hi)
  refine ⟨⟨xs, v, sq, e1⟩, fun x H' ⟨e3, e4⟩ => ?_⟩
  subst e3
  have := e4 xs sq
  rw [e1] at this; cases this
  exact ⟨Same.refl _, F, Gr.refl _ _, h2, T.mono h1 e2⟩
theorem di_list (ha : DE X J ρ e t (rP (yLst T)) ml) (fs : ∀ x, foldedSetIterable e X.env x = pure x := by intro _; rfl) : DI X J ρ tg e (iList X.K t) T ml :=
  ⟨pi_list ha.pe, fun b F σ H Q S q => ha.ev.thenI S (k := fun l => .ok l) (by rw [bindok]; exact q) fun a F' v H' g S' r q' => by
    obtain ⟨p, xs, h1, h2, h3⟩ := r
    exact ⟨p, h1, ⟨xs, .of (S'.fh _ _ h2)⟩, PostI.here q' S' (walks_list h2 h3)⟩, fs⟩
/-- lo, lo + 1, .. below hi -/
def rng (lo hi : Int) : List Int := (List.range (hi - lo).toNat).map fun (i : Nat) => lo + i
theorem rng_len (lo hi : Int) : (rng lo hi).length = (hi - lo).toNat := by unfold rng; rw [List.length_map, List.length_range]
theorem walks_rng {lo hi : Int} {F0 : Hp} : Walks (Itr lo (hi - lo).toNat) (yInt (K := X.K)) (rng lo hi) F0 := fun i F H h1 h2 => by
  refine ⟨fun h => ⟨by rw [rng_len] at h; exact h, fun x H' ⟨e1, e2⟩ => ?_⟩, fun h => by rw [rng_len] at h; exact h⟩
  subst e1
  refine ⟨Same.refl _, F, Gr.refl _ _, h2, ?_⟩
  show x = V.int (rng lo hi)[i]
  rw [e2]
  congr 1
  have h3 : (rng lo hi)[i]? = some (lo + i) := by
    unfold rng
    rw [List.getElem?_map, List.getElem?_range (by rw [rng_len] at h; exact h)]
    rfl
  rw [List.getElem?_eq_getElem h] at h3
  exact (Option.some.inj h3).symm
def fit62 (j : Int) : Bool := decide (-(2 ^ 62) ≤ j ∧ j < 2 ^ 62)
def rRng (lo hi : Int) : R ε (List Int) := if fit62 lo && fit62 hi then .ok (rng lo hi) else .bad
theorem di_range1 {m : R ε Int} (hg : Gl X "range") (hm : X.mg "range" = none) (ha : DE X J ρ e t (rV μ yInt) m) (hs : starEach [e] X.env = (false, eval e X.env) :: starEach [] X.env := by rfl) (fs : ∀ x, foldedSetIterable (.Call (.Name "range" p) [e] [] pos) X.env x = pure x := by intro _; rfl) :
    DI X J ρ tg (.Call (.Name "range" p) [e] [] pos) (iRng1 (tCons t tNil)) yInt (m.bind fun j => rRng 0 j) :=
  ⟨pi_range1 hg hm (pa_cons ha.pe pa_nil hs) hs, fun b F σ H Q S q => ha.ev.thenI S q fun j F' v H' g S' r q' => by
    cases r
    refine ⟨j, rfl, ?_⟩
    unfold rRng at q'
    have h0 : fit62 0 = true := by decide
    rw [h0, Bool.true_and] at q'
    cases hj : fit62 j with
    | false => rw [hj] at q'; exact q'.elim
    | true =>
      rw [hj, if_pos rfl] at q'
      have hj' := of_decide_eq_true hj
      refine ⟨hj'.1, hj'.2, ?_⟩
      have w := walks_rng (X := X) (lo := 0) (hi := j) (F0 := F')
      rw [Int.sub_zero] at w
      exact PostI.here q' S' w, fs⟩
theorem di_range2 {m n : R ε Int} (hg : Gl X "range") (hm : X.mg "range" = none) (ha : DE X J ρ e t (rV μ yInt) m) (hb : DE X J ρ e' t' (rV ν yInt) n) (hs : starEach [e, e'] X.env = (false, eval e X.env) :: starEach [e'] X.env := by rfl) (hs2 : starEach [e'] X.env = (false, eval e' X.env) :: starEach [] X.env := by rfl)
    (hs3 : starEach [e, e'] X.env = [(false, eval e X.env), (false, eval e' X.env)] := by rfl) (fs : ∀ x, foldedSetIterable (.Call (.Name "range" p) [e, e'] [] pos) X.env x = pure x := by intro _; rfl) :
    DI X J ρ tg (.Call (.Name "range" p) [e, e'] [] pos) (iRng2 (tCons t (tCons t' tNil))) yInt (m.bind fun i => n.bind fun j => rRng i j) :=
  ⟨pi_range2 hg hm (pa_cons ha.pe (pa_cons hb.pe pa_nil hs2) hs) hs3 hs2, fun b F σ H Q S q => ha.ev.thenI S q fun i F' v H' g S' r q' => hb.ev.thenI S' q' fun j F2 w H2 g2 S2 r2 q2 => by
    cases r; cases r2
    refine ⟨i, j, rfl, ?_⟩
    unfold rRng at q2
    cases hi : fit62 i with
    | false => rw [hi] at q2; exact q2.elim
    | true =>
      cases hj : fit62 j with
      | false => rw [hi, hj] at q2; exact q2.elim
      | true =>
        rw [hi, hj, Bool.true_and, if_pos rfl] at q2
        have hi' := of_decide_eq_true hi
        have hj' := of_decide_eq_true hj
        exact ⟨⟨hi'.1, hi'.2, hj'.1, hj'.2⟩, PostI.here q2 S2 walks_rng⟩, fs⟩
/-- several targets, one behind another -/
structure DGs (X : Cx) (ρ : Ev X.K) (ts : List Expr) (g : TGs) (U : Tys X.K α) (ρ' : α → Ev X.K) (ix : List Nat) : Prop where
  pg : PGs X ts g
  ev : ∀ (b : B) (F : Hp) (σ : St) (H : Hp) (vs : List V) (a : α) (Q : St → Hp → Prop), Sta b ρ F σ H → U.rel a F vs → (∀ σ', σ'.length = σ.length → (∀ j, j ∉ ix → σ'[j]? = σ[j]?) → Sta b (ρ' a) F σ' H → Q σ' H) → g vs σ H Q
  kp : ∀ (a : α) (j : Nat), j ∉ ix → (ρ' a)[j]? = ρ[j]?
  pl : ∀ (a : α) (j : Nat) (s : Slt X.K), j ∈ ix → (ρ' a)[j]? = some (some s) → s.isOw = false
theorem dgs_1 {g : TG} {ρ' : α → Ev X.K} {ix : List Nat} (h : DG X ρ e g T ρ' ix) (hs : (assignEach [e] X.env).map (·.2) = assign e X.env :: (assignEach [] X.env).map (·.2) := by rfl) : DGs X ρ [e] (gCons g gNil) (tys1 T) ρ' ix :=
  ⟨pgs_cons h.pg pgs_nil hs, fun b F σ H vs a Q S ⟨v, e1, r⟩ q => ⟨v, [], e1, h.ev b F σ H v a _ S r fun σ' h1 h2 S' => ⟨rfl, q σ' h1 h2 S'⟩⟩, h.kp, h.pl⟩
theorem dgs_c [Inhabited α] {U : Tys X.K β} {g : TG} {gs : TGs} {ρ' : α → Ev X.K} {ρ2 : α → β → Ev X.K} {ix ix' : List Nat} (h : DG X ρ e g T ρ' ix) (hr : ∀ a, DGs X (ρ' a) es gs U (ρ2 a) ix') (hs : (assignEach (e :: es) X.env).map (·.2) = assign e X.env :: (assignEach es X.env).map (·.2) := by rfl) :
    DGs X ρ (e :: es) (gCons g gs) (tysC T U) (fun a => ρ2 a.1 a.2) (ix ++ ix') :=
  ⟨pgs_cons h.pg (hr default).pg hs, fun b F σ H vs a Q S ⟨v, r, e1, r1, r2⟩ q => ⟨v, r, e1, h.ev b F σ H v a.1 _ S r1 fun σ' h1 h2 S' => (hr a.1).ev b F σ' H r a.2 Q S' r2 fun σ'' h3 h4 S'' =>
    q σ'' (h3.trans h1) (fun j hj => (h4 j fun z => hj (List.mem_append_right _ z)).trans (h2 j fun z => hj (List.mem_append_left _ z))) S''⟩, fun a => kp_seq (h.kp a.1) ((hr a.1).kp a.2), fun a => pl_seq (h.pl a.1) ((hr a.1).kp a.2) ((hr a.1).pl a.2)⟩
theorem dg_tup {U : Tys X.K α} {g : TGs} {k : Nat} {ρ' : α → Ev X.K} {ix : List Nat} (hc : X.calm = true) (h : DGs X ρ es g U ρ' ix) (hn : (assignEach es X.env).length = U.n := by rfl) (hst : (assignEach es X.env).findIdx? (·.1) = none := by rfl) :
    DG X ρ (.Tuple es k pos) (gTup X.K U.n g) (yTup U) ρ' ix :=
  ⟨pg_tup hc h.pg hn hst, fun b F σ H v a Q S ⟨p, xs, e1, h2, h3⟩ q => ⟨p, xs, e1, Same.sqt S.fh h2, U.len h3, h.ev b F σ H xs a Q S h3 q⟩, h.kp, h.pl⟩
theorem ds_set {i : Nat} {x : Str} {pos' : Pos} {m : R ε α} (hN : X.N.Nodup) (hi : X.N[i]? = some x) (hx : Loc X.env.scope x) (h : DE X J ρ e t (rP T) m) (hs : swapsWith e (some (.Name x pos')) pos.line X.env = pure false := by rfl) (hf : X.fn x = true ∨ X.env.scope.names.lookup x = some .local := by first | exact .inl rfl | exact .inr rfl) :
    DS1 X J ρ (.Assign [.Name x pos'] e pos) (tAsg t (gName i)) (fun a => .nx (ρ.set i (some (.pl T a)))) m :=
  ⟨ps_set hN hi hx h.pe hs hf, fun b F σ H D S q => by
    rw [← bindok m] at q
    exact h.ev.thenS S q fun a F' v H' g S' r q' => q' F' _ H' (Same.refl _) (S'.setP r)⟩
theorem ds_setF {i : Nat} {x : Str} {pos' : Pos} {C : Ct X.K α} {m : R ε α} (hN : X.N.Nodup) (hi : X.N[i]? = some x) (hx : Loc X.env.scope x) (h : DE X J ρ e t (rF C) m) (hs : swapsWith e (some (.Name x pos')) pos.line X.env = pure false := by rfl) (hf : X.fn x = true ∨ X.env.scope.names.lookup x = some .local := by first | exact .inl rfl | exact .inr rfl) :
    DS1 X J ρ (.Assign [.Name x pos'] e pos) (tAsg t (gName i)) (fun a => .nx (ρ.set i (some (.ow C a)))) m :=
  ⟨ps_set hN hi hx h.pe hs hf, fun b F σ H D S q => by
    rw [← bindok m] at q
    exact h.ev.thenS S q fun a F' v H' g S' r q' => by
      obtain ⟨p, o, rfl, n, hp, fp, r⟩ := r
      exact q' F' _ H' (Same.refl _) (S'.setO hp fp (S.h0.free n) r (S.fresh_un n))⟩
/-- a, b = e -/
theorem ds_asg {g : TG} {ρ' : α → Ev X.K} {m : R ε α} {ix : List Nat} (h : DE X J ρ e t (rP T) m) (hg : DG X ρ tg g T ρ' ix) (hs : swapsWithSole [tg] e pos.line X.env = pure false := by rfl) (hw : swappedStores [tg] e X.env = pure none := by rfl)
    (h1 : (assignEach [tg] X.env).map (·.2) = [assign tg X.env] := by rfl) : DS1 X J ρ (.Assign [tg] e pos) (tAsg t g) (fun a => .nx (ρ' a)) m :=
  ⟨ps_asg h.pe hg.pg hs hw h1, fun b F σ H D S q => by
    rw [← bindok m] at q
    exact h.ev.thenS S q fun a F' v H' gr S' r q' => hg.ev b F' σ H' v a _ S' r fun σ' _ _ S'' => q' F' σ' H' (Same.refl _) S''⟩
/-- the list of a slot -/
theorem own_list {b : B} {F : Hp} {σ : St} {H : Hp} {i : Nat} {l : List α} {ρ : Ev K} {T : Ty K α} (S : Sta b ρ F σ H) (hi : ρ[i]? = some (some (.ow (cLst T) l))) : ∃ p xs, σ[i]? = some (some (.ref p)) ∧ H p = some (.lst xs) ∧ T.all l F xs := by
  obtain ⟨v, e1, p, o, rfl, h1, h2, h3, xs, rfl, h4⟩ := S.sl i _ hi
  exact ⟨p, xs, e1, h1, h4⟩
theorem tyl {H : Hp} {p : Addr} {xs : List V} (h : H p = some (.lst xs)) : tyV K "list" (.ref p) H := .inl ⟨rfl, _, .of h⟩
/-- a method of an own list, as a statement: what it makes of the list -/
theorem ds_meth1 {name : Str} {id : String} {r : V → List V → Hp → VK → Prop} {i : Nat} {l : List α} {U : Tys X.K β} {l' : γ → List α} {f : β → R ε γ} {m : R ε β} {o : Expr} {apos cpos : Pos} (slot : Slot "list" name id) (hty : typeOf (.builtin id) = pure (.type "method_descriptor")) (hm : MtR X id r)
    (hr : ∀ (b : B) (F : Hp) (σ : St) (H : Hp) (p : Addr) (xs : List V) (a : β) (vs : List V) (Q : VK), Sta b ρ F σ H → H p = some (.lst xs) → T.all l F xs → U.rel a F vs → (match f a with | .ok c => ∀ ys, T.all (l' c) F ys → Q .non (upd H p (.lst ys)) | .exn _ => False | .bad => False) → r (.ref p) vs H Q)
    (hn : ∀ a e, f a ≠ .exn e)
    (ho : PE X o (tVar i)) (hi : ρ[i]? = some (some (.ow (cLst T) l))) (ha : DAp X J ρ (e :: es) ta U m)
    (hbase : attributeBase o name X.env (eval o X.env) = eval o X.env := by rfl)
    (hfew : ((backTo cpos (starEach (e :: es) X.env)).all (fun x => !x.1) && (backToKw cpos (keywordEach [] X.env)).all (fun x => x.1.isSome)
      && decide ((e :: es).length + ([] : List Keyword).length + (if ([] : List Keyword).isEmpty then 0 else 1) < 30)) = true := by rfl)
    (hline : (apos.endLine == cpos.line) = true := by rfl) (hs : starEach (e :: es) X.env = (false, eval e X.env) :: starEach es X.env := by rfl) (hplain : (backTo cpos (starEach es X.env)).any (·.1) = false := by rfl)
    (hsw : swapsWith (.Call (.Attribute o name apos) (e :: es) [] cpos) none pos.line X.env = pure false := by rfl) :
    DS1 X J ρ (.Expr (.Call (.Attribute o name apos) (e :: es) [] cpos) pos) (tDrop (tBM X.K "list" r (tVar i) ta)) (fun c => .nx (ρ.set i (some (.ow (cLst T) (l' c))))) (m.bind f) :=
  ⟨ps_expr (pe_bm PySem.F.plainAttrs_list slot hty hm ho ha.pa hbase hfew hline hs hplain) hsw, fun b F σ H D S q => by
    obtain ⟨p, xs, e1, h1, h2⟩ := own_list S hi
    refine ⟨_, e1, tyl h1, ha.ev b F σ H _ S ?_⟩
    cases m with
    | exn e => exact q
    | bad => exact q
    | ok a =>
      intro F' vs H' g S' r'
      have q' := PostS.later g.f (show PostS J b F D _ (f a) from q)
      obtain ⟨p', xs', e1', h1', h2'⟩ := own_list S' hi
      rw [e1] at e1'; cases e1'
      refine hr b F' σ H' p xs' a vs _ S' h1' h2' r' ?_
      revert q'
      have hn' := hn a
      generalize f a = z at hn' ⊢
      intro q'
      cases z with
      | ok c => exact fun ys hy => q' F' σ _ (Same.refl _) (S'.change hi e1 ⟨ys, rfl, hy⟩)
      | exn e => exact (hn' e rfl).elim
      | bad => exact q'⟩
theorem ds_append {i : Nat} {l : List α} {m : R ε α} {o : Expr} {apos cpos : Pos} (ho : PE X o (tVar i)) (hi : ρ[i]? = some (some (.ow (cLst T) l))) (ha : DE X J ρ e t (rP T) m)
    (hbase : attributeBase o "append" X.env (eval o X.env) = eval o X.env := by rfl)
    (hfew : ((backTo cpos (starEach [e] X.env)).all (fun x => !x.1) && (backToKw cpos (keywordEach [] X.env)).all (fun x => x.1.isSome)
      && decide ([e].length + ([] : List Keyword).length + (if ([] : List Keyword).isEmpty then 0 else 1) < 30)) = true := by rfl)
    (hline : (apos.endLine == cpos.line) = true := by rfl) (hs : starEach [e] X.env = (false, eval e X.env) :: starEach [] X.env := by rfl) (hplain : (backTo cpos (starEach [] X.env)).any (·.1) = false := by rfl)
    (hsw : swapsWith (.Call (.Attribute o "append" apos) [e] [] cpos) none pos.line X.env = pure false := by rfl) :
    DS1 X J ρ (.Expr (.Call (.Attribute o "append" apos) [e] [] cpos) pos) (tDrop (tBM X.K "list" rAppend (tVar i) (tCons t tNil))) (fun c => .nx (ρ.set i (some (.ow (cLst T) (l ++ [c]))))) (m.bind fun a => rApp l a) :=
  ds_meth1 (U := tys1 T) (l' := fun c => l ++ [c]) PySem.F.slot_list_append PySem.F.type_list_append mt_append (fun b F σ H p xs a vs Q S h1 h2 ⟨v, e1, r⟩ q => by
    subst e1
    unfold rApp at q
    by_cases hz : l.length < sizeLine
    · rw [if_pos hz] at q
      exact ⟨p, xs, v, rfl, rfl, h1, by rw [Paired.length h2]; exact hz, q _ (prd_app h2 (.cons r .nil))⟩
    · rw [if_neg hz] at q; exact q.elim) (fun a e h => by unfold rApp at h; split at h <;> cases h) ho hi (dp_one ha hs) hbase hfew hline hs hplain hsw
/-- an own list is given up -/
theorem ds_give {τ : Type} {I : τ → Oc X.K} {m : R ε τ} {i : Nat} {l : List α} {sts : List Stmt} {ts : TS} (hi : ρ[i]? = some (some (.ow (cLst T) l))) (h : DS X J (ρ.set i (some (.pl (yLst T) l))) sts ts I m) : DS X J ρ sts ts I m :=
  ⟨h.ps, fun b F σ H D S q => by
    obtain ⟨F', sf, S'⟩ := S.give hi cLst_ty
    exact h.ev b F' σ H D S' (PostS.later sf q)⟩
end
end Cp
namespace Cp
open PySem PySem.Spec L2
open PyProof.Rows hiding St
variable {K : PySem.W.Frag} {ε : Type}
/-- nothing is raised -/
def R.noX {ε α : Type} : R ε α → R ε α
  | .ok a => .ok a
  | _ => .bad
section
variable {α β : Type}
def lcM (mt : α → R ε Bool) (f : α → R ε β) : List α → R ε (List β)
  | [] => .ok []
  | x :: l => (mt x).bind fun c => if c then (f x).bind fun y => (lcM mt f l).bind fun r => .ok (y :: r) else lcM mt f l
/-- [f x for x in l if mt x]: at most as many as a list may hold; nothing is raised within -/
def lcR (mt : α → R ε Bool) (f : α → R ε β) (l : List α) : R ε (List β) := if l.length ≤ sizeLine then (lcM mt f l).noX else .bad
end
/-- the slots of a block's own names -/
def wipeE (ρ : Ev K) : List Nat → Ev K
  | [] => ρ
  | v :: vs => (wipeE ρ vs).set v none
section
variable {b : B} {ρ : Ev K} {F : Hp} {σ : St} {H : Hp}
theorem Sta.setN (S : Sta b ρ F σ H) (i : Nat) : Sta b (ρ.set i none) F (σ.set i none) H where
  h0 := S.h0
  tb := S.tb
  nt := S.nt
  f0 := S.f0
  fh := S.fh
  nw := S.nw
  len := by rw [List.length_set, List.length_set]; exact S.len
  sl := fun j s e => by
    rcases getset e with ⟨rfl, q⟩ | ⟨ne, q⟩
    · cases q
    · obtain ⟨w, e1, e2⟩ := S.sl j s q
      exact ⟨w, by rw [List.getElem?_set_ne (Ne.symm ne)]; exact e1, e2⟩
  ds := fun j k s t w e1 e2 o1 o2 e3 e4 => by
    rcases getset e1 with ⟨rfl, q⟩ | ⟨n1, q1⟩
    · cases q
    · rcases getset e2 with ⟨rfl, q⟩ | ⟨n2, q2⟩
      · cases q
      · rw [List.getElem?_set_ne (Ne.symm n1)] at e3
        rw [List.getElem?_set_ne (Ne.symm n2)] at e4
        exact S.ds j k s t w q1 q2 o1 o2 e3 e4
theorem Sta.wipe (S : Sta b ρ F σ H) : ∀ vs : List Nat, Sta b (wipeE ρ vs) F (L2.wipe σ vs) H
  | [] => S
  | v :: vs => by
    have h := (Sta.wipe S vs).setN v
    unfold wipeE L2.wipe
    exact h
theorem wipe_eq {σ σ' : St} : ∀ (vs : List Nat), σ'.length = σ.length → (∀ j, j ∉ vs → σ'[j]? = (L2.wipe σ vs)[j]?) → L2.wipe σ' vs = L2.wipe σ vs := fun vs hl h => by
  have key : ∀ (vs : List Nat) (τ : St) (j : Nat), j ∈ vs → j < τ.length → (L2.wipe τ vs)[j]? = some none := by
    intro vs
    induction vs with
    | nil => intro τ j h; cases h
    | cons v vs ih =>
      intro τ j hj hlt
      unfold L2.wipe
      by_cases e : v = j
      · subst e
        rw [List.getElem?_set_self (by rw [wipe_length]; exact hlt)]
      · rw [List.getElem?_set_ne e]
        rcases List.mem_cons.mp hj with z | z
        · exact (e z.symm).elim
        · exact ih τ j z hlt
  apply List.ext_getElem?
  intro j
  by_cases hj : j ∈ vs
  · by_cases hlt : j < σ.length
    · rw [key vs σ' j hj (by rw [hl]; exact hlt), key vs σ j hj hlt]
    · rw [List.getElem?_eq_none (by rw [wipe_length, hl]; omega), List.getElem?_eq_none (by rw [wipe_length]; omega)]
  · rw [wipe_out hj, h j hj]
/-- an object that nobody leans on changes -/
theorem Sta.chg {p : Addr} {o o' : HO} (S : Sta b ρ F σ H) (hp : H p = some o) (hl : Lc o) (fp : F p = none) (bp : b.H0 p = none) (un : ∀ (j : Nat) (s : Slt K), ρ[j]? = some (some s) → s.isOw = true → σ[j]? = some (some (.ref p)) → False) : Sta b ρ F σ (upd H p o') := by
  refine ⟨fun c u e => ?_, S.tb.chg hp hl, S.nt, S.f0, fun c u e => ?_, S.nw, S.len, fun j s e => ?_, S.ds⟩
  · rw [upd_ne (ne_of_none e bp)]; exact S.h0 _ _ e
  · rw [upd_ne (ne_of_none e fp)]; exact S.fh _ _ e
  · obtain ⟨w, e1, e2⟩ := S.sl j s e
    refine ⟨w, e1, ?_⟩
    cases s with
    | pl T' a' => exact e2
    | ow C' a' =>
      obtain ⟨p', o', rfl, q1, q2, q3, q4⟩ := e2
      refine ⟨p', o', rfl, ?_, q2, q3, q4⟩
      rw [upd_ne]
      · exact q1
      · rintro rfl
        exact un j _ e rfl e1
end
section
variable {α : Type}
/-- walked while no object of the slots changes -/
def WalksC (Jt : It) (T : Ty K α) (l : List α) (F0 H0 : Hp) : Prop := ∀ (i : Nat) (F H : Hp), Same F0 F → Sm H0 H → Same F H →
  (∀ h : i < l.length, Jt.go i H ∧ ∀ x H', Jt.yld i H x H' → Same H H' ∧ ∃ F', Gr F H F' H' ∧ Same F' H' ∧ T.rel (l[i]) F' x) ∧ (l.length ≤ i → Jt.stop i H)
def PostIc (J : Jc K ε) (b : B) (ρ : Ev K) (T : Ty K α) (F : Hp) (σ : St) (H : Hp) (Q : It → Hp → Prop) : R ε (List α) → Prop
  | .ok l => ∀ F' H' Jt, Gr F H F' H' → Sta b ρ F' σ H' → WalksC Jt T l F' H' → Q Jt H'
  | .exn e => Pex J b e
  | .bad => False
def EvalIc (J : Jc K ε) (wi : TI) (ρ : Ev K) (T : Ty K α) (m : R ε (List α)) : Prop := ∀ (b : B) (F : Hp) (σ : St) (H : Hp) (Q : It → Hp → Prop), Sta b ρ F σ H → PostIc J b ρ T F σ H Q m → wi σ H Q
structure DIc (X : Cx) (J : Jc X.K ε) (ρ : Ev X.K) (tg iter : Expr) (wi : TI) (T : Ty X.K α) (m : R ε (List α)) : Prop where
  pi : PI X tg iter wi
  ev : EvalIc J wi ρ T m
  fs : ∀ x, foldedSetIterable iter X.env x = pure x
theorem DI.c {X : Cx} {J : Jc X.K ε} {ρ : Ev X.K} {tg iter : Expr} {wi : TI} {T : Ty X.K α} {m : R ε (List α)} (h : DI X J ρ tg iter wi T m) : DIc X J ρ tg iter wi T m :=
  ⟨h.pi, fun b F σ H Q S q => h.ev b F σ H Q S (by
    cases m with
    | ok l => exact fun F' H' Jt g S' w => q F' H' Jt g S' fun i F H h1 _ h3 => w i F H h1 h3
    | exn e => exact q
    | bad => exact q), h.fs⟩
/-- an own list, walked within a display -/
theorem dic_list {X : Cx} {J : Jc X.K ε} {ρ : Ev X.K} {tg e : Expr} {t : TE} {μ : Md} {T : Ty X.K α} {ml : R ε (List α)} (hi : T.imm) (ha : DE X J ρ e t (rV μ (yLst T)) ml) (fs : ∀ x, foldedSetIterable e X.env x = pure x := by intro _; rfl) : DIc X J ρ tg e (iList X.K t) T ml :=
  ⟨pi_list ha.pe, fun b F σ H Q S q => ha.ev b F σ H _ S (by
    cases ml with
    | exn e => exact q
    | bad => exact q
    | ok l =>
      intro F' v H' g S' r
      obtain ⟨p, xs, h1, h2, h3⟩ := r
      have hp := Md.le S' μ _ _ h2
      refine ⟨p, h1, ⟨xs, .of hp⟩, q F' H' _ g S' fun i F2 H2 f1 f2 f3 => ?_⟩
      have r3 := all_back hi S' μ h3
      have hl := Paired.length r3
      have sq : SqL X.K H2 p xs := .of (f2.at_ hp (fun ps z => nomatch z))
      refine ⟨fun hi => ?_, fun hi => ⟨xs, sq, by omega⟩⟩
      obtain ⟨v, e1, e2⟩ := all_get r3 (List.getElem?_eq_getElem hi)
      refine ⟨⟨xs, v, sq, e1⟩, fun x H3 ⟨e3, e4⟩ => ?_⟩
      subst e3
      have := e4 xs sq
      rw [e1] at this; cases this
      exact ⟨Same.refl _, F2, Gr.refl _ _, f3, T.mono f1 e2⟩), fs⟩
end
section
variable {α β γ : Type} [Inhabited α] {X : Cx} {J : Jc X.K ε} {ρ : Ev X.K} {elt tg iter : Expr} {ifs : List Expr} {pos : Pos} {T : Ty X.K α} {U : Ty X.K β} {ml : R ε (List α)} {wi : TI} {g : TG} {tt : TT} {te : TE} {scope : Scope} {own : List (Str × Nat)} {ρ' : α → Ev X.K} {mt : α → R ε Bool} {f : α → R ε β} {ix : List Nat}
theorem lcM_ok {l : List α} {r : List β} {x : α} (h : lcM mt f (x :: l) = .ok r) : ∃ c, mt x = .ok c ∧ if c then ∃ y r', f x = .ok y ∧ lcM mt f l = .ok r' ∧ r = y :: r' else lcM mt f l = .ok r := by
  unfold lcM at h
  cases e1 : mt x with
  | exn e => rw [e1] at h; cases h
  | bad => rw [e1] at h; cases h
  | ok c =>
    rw [e1] at h
    refine ⟨c, rfl, ?_⟩
    cases c with
    | false => exact h
    | true =>
      have h : (f x).bind _ = R.ok r := h
      cases e2 : f x with
      | exn e => rw [e2] at h; cases h
      | bad => rw [e2] at h; cases h
      | ok y =>
        rw [e2] at h
        have h : (lcM mt f l).bind _ = R.ok r := h
        cases e3 : lcM mt f l with
        | exn e => rw [e3] at h; cases h
        | bad => rw [e3] at h; cases h
        | ok r' =>
          rw [e3] at h
          cases h
          exact ⟨y, r', rfl, rfl, rfl⟩
theorem lc_ev (hi : EvalIc J wi ρ T ml) (hg : ∀ (b : B) (F : Hp) (σ : St) (H : Hp) (v : V) (a : α) (Q : St → Hp → Prop), Sta b (wipeE ρ (own.map (·.2))) F σ H → T.rel a F v → (∀ σ', σ'.length = σ.length → (∀ j, j ∉ ix → σ'[j]? = σ[j]?) → Sta b (ρ' a) F σ' H → Q σ' H) → g v σ H Q)
    (hix : ∀ j ∈ ix, j ∈ own.map (·.2)) (ht : ∀ a, EvalT J.no tt (ρ' a) (mt a)) (he : ∀ a, Eval J.no te (ρ' a) (rP U) (f a)) :
    Eval J (tLc wi g tt te (own.map (·.2))) ρ (rF (cLst U)) (ml.bind fun l => lcR mt f l) := fun b F σ H Q S q => by
  refine hi b F σ H _ S ?_
  cases ml with
  | exn e => exact q
  | bad => exact q
  | ok l =>
    intro F1 H1 It1 g1 S1 wk D hD
    have q : PostE J b ρ (rF (cLst U)) F σ H Q (lcR mt f l) := q
    unfold lcR at q
    by_cases hz : l.length ≤ sizeLine
    case neg => rw [if_neg hz] at q; exact q.elim
    rw [if_pos hz] at q
    cases hr : lcM mt f l with
    | exn e => rw [hr] at q; exact q.elim
    | bad => rw [hr] at q; exact q.elim
    | ok r =>
      rw [hr] at q
      have fD : F1 D = none := S1.fh.free hD
      have bD : b.H0 D = none := S1.h0.free hD
      have unD : ∀ (j : Nat) (s : Slt X.K), ρ[j]? = some (some s) → s.isOw = true → σ[j]? = some (some (.ref D)) → False := S1.fresh_un hD
      -- behind i items: F2, H2 have grown, D holds what is done
      refine ⟨fun i m H2 => m = l.length - i ∧ i ≤ l.length ∧ ∃ (F2 : Hp) (acc : List V) (done rest : List β), Same F1 F2 ∧ Sta b ρ F2 σ H2 ∧ (∀ p, (∃ o, H1 p = some o) → F1 p = none → F2 p = none) ∧ Sm H1 H2 ∧ F2 D = none ∧ H2 D = some (.lst acc) ∧ U.all done F2 acc ∧ lcM mt f (l.drop i) = .ok rest ∧ r = done ++ rest ∧ acc.length ≤ i, ⟨l.length, by simp, Nat.zero_le _, F1, [], [], r, Same.refl _, S1.newH hD, fun _ _ z => z, .of (same_upd hD), fD, upd_same, .nil, hr, rfl, Nat.le_refl _⟩, ?_⟩
      rintro i m H2 ⟨rfl, hil, F2, acc, done, rest, sf, S2, nF, sh, f2D, h2D, rd, hrest, hrr, hacc⟩
      obtain ⟨wgo, wst⟩ := wk i F2 H2 sf sh S2.fh
      by_cases hlt : i < l.length
      · obtain ⟨go, yld⟩ := wgo hlt
        rw [List.drop_eq_getElem_cons hlt] at hrest
        obtain ⟨c, hc, hcc⟩ := lcM_ok hrest
        refine .inr ⟨go, fun H3 => ∃ (F3 : Hp) (acc : List V) (done rest : List β), Same F1 F3 ∧ Sta b ρ F3 σ H3 ∧ (∀ p, (∃ o, H1 p = some o) → F1 p = none → F3 p = none) ∧ Sm H1 H3 ∧ F3 D = none ∧ H3 D = some (.lst acc) ∧ U.all done F3 acc ∧ lcM mt f (l.drop (i + 1)) = .ok rest ∧ r = done ++ rest ∧ acc.length ≤ i + 1, fun H3 h3 => ⟨l.length - (i + 1), by omega, rfl, hlt, h3⟩, fun x H' y => ?_⟩
        obtain ⟨sy, F3, g3, fh3, r3⟩ := yld x H' y
        have S3 := g3.sta S2 (S2.tb.ext sy) fh3
        refine hg b F3 _ H' x _ _ (S3.wipe _) r3 fun σ4 hl4 hj4 S4 => ⟨?_, ?_⟩
        · refine wipe_eq _ (hl4.trans (wipe_length _ _)) fun j hj => hj4 j fun z => hj (hix j z)
        · refine ht _ b F3 σ4 H' _ S4 ?_
          rw [hc]
          intro F5 H5 g5 S5
          have g25 := g3.trans g5
          have S25 := g25.sta S2 S5.tb S5.fh
          cases c with
          | false =>
            rw [if_neg Bool.false_ne_true] at hcc ⊢
            exact ⟨F5, acc, done, rest, sf.trans g25.f, S25, fun p hp z => g25.n p (sh.dom hp) (nF p hp z), sh.trans g25.h, g25.n D ⟨_, h2D⟩ f2D, g25.h.at_ h2D (fun ps z => nomatch z), Ty.all_mono g25.f rd, hcc, hrr, Nat.le_succ_of_le hacc⟩
          | true =>
            rw [if_pos rfl] at hcc ⊢
            obtain ⟨y, r', hy, hr', hyr⟩ := hcc
            refine he _ b F5 σ4 H5 _ S5 ?_
            rw [hy]
            intro F6 v H6 g6 S6 r6
            have g26 := g25.trans g6
            have S26 := g26.sta S2 S6.tb S6.fh
            have f6D := g26.n D ⟨_, h2D⟩ f2D
            refine ⟨acc, g26.h.at_ h2D (fun ps z => nomatch z), ?_, F6, acc ++ [v], done ++ [y], r', sf.trans g26.f, S26.chg (o := .lst acc) (g26.h.at_ h2D (fun ps z => nomatch z)) trivial f6D bD unD, fun p hp z => g26.n p (sh.dom hp) (nF p hp z), ?_, f6D, upd_same, prd_app (Ty.all_mono g26.f rd) (.cons r6 .nil), hr', by rw [hrr, hyr, List.append_assoc]; rfl, by rw [List.length_append]; exact Nat.succ_le_succ hacc⟩
            · omega
            · exact fun p o e => by rw [upd_ne (ne_of_none e hD)]; exact (sh.trans g26.h) _ _ e
      · have e : i = l.length := by omega
        subst e
        rw [List.drop_length] at hrest
        cases hrest
        rw [List.append_nil] at hrr
        subst hrr
        refine .inl ⟨wst (Nat.le_refl _), ?_⟩
        exact q F2 _ H2 ⟨g1.f.trans sf, g1.h.trans sh, fun p hp z => nF p (g1.h.dom hp) (g1.n p hp z)⟩ S2 ⟨D, _, rfl, g1.h.free hD, h2D, f2D, acc, rfl, rd⟩
/-- the tests of a block -/
structure DTs (X : Cx) (J : Jc X.K ε) (ρ : Ev X.K) (ifs : List Expr) (t : TT) (m : R ε Bool) : Prop where
  pts : PTs X ifs t
  ev : EvalT J t ρ m
theorem dts_nil {X : Cx} {J : Jc X.K ε} {ρ : Ev X.K} : DTs X J ρ [] tYes (.ok true) := ⟨pts_nil, fun b F σ H Q S q => q F H (Gr.refl _ _) S⟩
theorem dts_one {X : Cx} {J : Jc X.K ε} {ρ : Ev X.K} {c : Expr} {t : TT} {m : R ε Bool} (h : DT X J ρ c t m) : DTs X J ρ [c] t m := ⟨pts_one h.pt, h.ev⟩
abbrev Blk (X : Cx) (scope : Scope) (s : Shared) (H : Hp) (C : Addr) (cl : List (Str × Addr)) (fp : List Addr) : Cx := X.blk s H scope (compEnvC scope cl C X.env) fp
theorem de_lc (hc : X.calm = true) (hN : X.N.Nodup) (hi : DIc X J ρ tg iter wi T ml) (ok : BlkOk X.N X.env.scope scope own)
    (hg : ∀ (s : Shared) (H : Hp) (C : Addr) (cl : List (Str × Addr)) (fp : List Addr), DG (Blk X scope s H C cl fp) (wipeE ρ (own.map (·.2))) tg g T ρ' ix) (hix : ∀ j ∈ ix, j ∈ own.map (·.2))
    (ht : ∀ (s : Shared) (H : Hp) (C : Addr) (cl : List (Str × Addr)) (fp : List Addr) (a : α), DTs (Blk X scope s H C cl fp) J.no (ρ' a) ifs tt (mt a))
    (he : ∀ (s : Shared) (H : Hp) (C : Addr) (cl : List (Str × Addr)) (fp : List Addr) (a : α), DE (Blk X scope s H C cl fp) J.no (ρ' a) elt te (rP U) (f a)) :
    DE X J ρ (.ListComp elt [⟨tg, iter, ifs, 0⟩] scope pos) (tLc wi g tt te (own.map (·.2))) (rF (cLst U)) (ml.bind fun l => lcR mt f l) :=
  ⟨pe_lc hc hN hi.pi ok (fun s H C cl fp => (hg s H C cl fp).pg) (fun s H C cl fp => (ht s H C cl fp default).pts) (fun s H C cl fp => (he s H C cl fp default).pe) hi.fs,
    lc_ev hi.ev (hg {} (fun _ => none) 0 [] []).ev hix (fun a => (ht {} (fun _ => none) 0 [] [] a).ev) fun a => (he {} (fun _ => none) 0 [] [] a).ev⟩
/-- y = [..] -/
theorem ds_setLc {i : Nat} {y : Str} {py spos : Pos} (hc : X.calm = true) (hN : X.N.Nodup) (hy : X.N[i]? = some y) (hyl : X.env.scope.names.lookup y = some .local)
    (hsw : swapsWith (.ListComp elt [⟨tg, iter, ifs, 0⟩] scope pos) (some (.Name y py)) spos.line X.env = pure true) (hi : DIc X J ρ tg iter wi T ml) (ok : BlkOk X.N X.env.scope scope own)
    (hg : ∀ (s : Shared) (H : Hp) (C : Addr) (cl : List (Str × Addr)) (fp : List Addr), DG (Blk X scope s H C cl fp) (wipeE ρ (own.map (·.2))) tg g T ρ' ix) (hix : ∀ j ∈ ix, j ∈ own.map (·.2))
    (ht : ∀ (s : Shared) (H : Hp) (C : Addr) (cl : List (Str × Addr)) (fp : List Addr) (a : α), DTs (Blk X scope s H C cl fp) J.no (ρ' a) ifs tt (mt a))
    (he : ∀ (s : Shared) (H : Hp) (C : Addr) (cl : List (Str × Addr)) (fp : List Addr) (a : α), DE (Blk X scope s H C cl fp) J.no (ρ' a) elt te (rP U) (f a)) :
    DS1 X J ρ (.Assign [.Name y py] (.ListComp elt [⟨tg, iter, ifs, 0⟩] scope pos) spos) (tAsg (tLc wi g tt te (own.map (·.2))) (gName i)) (fun a => .nx (ρ.set i (some (.ow (cLst U) a)))) (ml.bind fun l => lcR mt f l) :=
  ⟨ps_setLc hc hN hy hyl hsw hi.pi ok (fun s H C cl fp => (hg s H C cl fp).pg) (fun s H C cl fp => (ht s H C cl fp default).pts) (fun s H C cl fp => (he s H C cl fp default).pe) hi.fs, fun b F σ H D S q => by
    rw [← bindok (ml.bind fun l => lcR mt f l)] at q
    exact (lc_ev hi.ev (hg {} (fun _ => none) 0 [] []).ev hix (fun a => (ht {} (fun _ => none) 0 [] [] a).ev) fun a => (he {} (fun _ => none) 0 [] [] a).ev).thenS S q fun a F' v H' g S' r q' => by
      obtain ⟨p, o, rfl, n, hp, fp, r⟩ := r
      exact q' F' _ H' (Same.refl _) (S'.setO hp fp (S.h0.free n) r (S.fresh_un n))⟩
end
end Cp
namespace Cp
open PySem PySem.Spec L2
open PyProof.Rows hiding St
variable {K : PySem.W.Frag} {ε : Type}
section
variable {α β γ : Type} {X : Cx} {J : Jc X.K ε} {ρ : Ev X.K} {e e' : Expr} {es : List Expr} {t t' : TE} {ta : TA} {pos p : Pos} {μ ν : Md} {T : Ty X.K α} {ml : R ε (List α)} {tg : Expr}
def two {α : Type} : List α → R ε (α × α)
  | [a, b] => .ok (a, b)
  | _ => .bad
abbrev Cn := Int × Int
abbrev yCn {K : PySem.W.Frag} : Ty K Cn := yTup (tysC yInt (tys1 yInt))
def ltC (a b : Cn) : Bool := decide (a.1 < b.1 ∨ (a.1 = b.1 ∧ a.2 < b.2))
theorem lex2 (a b c d : Int) : HT.lexLt [a, b] [c, d] = ltC (a, b) (c, d) := by
  simp only [HT.lexLt, ltC]
  rw [Bool.eq_iff_iff]
  by_cases h : a = c
  · subst h; simp; omega
  · simp [h]
theorem dq_ltC {m n : R ε Cn} (hu : X.A.units < cLine) (ha : DE X J ρ e t (rV μ yCn) m) (hb : DE X J ρ e' t' (rV ν yCn) n) :
    DQ X J ρ (.Compare e [.Lt] [e'] pos) (tOp (rLtT X.K) t t') (m.bind fun a => n.bind fun c => .ok (ltC a c)) :=
  dq_cmp (op_ltT hu) (nomark _) ha hb fun b F σ H x y v w Q S r1 r2 q => by
    obtain ⟨p, xs, rfl, h2, x1, xr, rfl, h3, x2, rfl, h4⟩ := r1
    obtain ⟨p', xs', rfl, h2', y1, yr, rfl, h3', y2, rfl, h4'⟩ := r2
    cases h3; cases h4; cases h3'; cases h4'
    refine ⟨p, p', [x.1, x.2], [y.1, y.2], rfl, rfl, Same.sqt (Md.le S μ) h2, Same.sqt (Md.le S ν) h2', ?_⟩
    rw [lex2]
    exact PostE.here q S rfl
end
end Cp
namespace Cp
open PySem PySem.Spec L2
open PyProof.Rows hiding St
variable {K : PySem.W.Frag} {ε : Type}
section
variable {α β γ τ τ' s θ : Type} {X : Cx} {J : Jc X.K ε} {ρ ρ' : Ev X.K} {I : τ → Oc X.K} {pos : Pos} {st : Stmt} {rest : List Stmt} {t u : TS}
theorem u0 {k : Nat} {A : Around} (r : Room k A) : A.units < cLine := r.units0
theorem u64 {k : Nat} {A : Around} (r : Room k A) : A.units + 64 < cLine := r.units
theorem u65 {k : Nat} {A : Around} (r : Room k A) : A.units + 65 < cLine := by have := r.un; omega
theorem wkN {ρ : Ev K} {n : Nat} (h : ρ.length = n) : Wk ρ (nones n) := by
  subst h
  induction ρ with
  | nil => exact .nil
  | cons s ρ ih => exact .drop ih
theorem passC0 {E : St → XK} : ∀ σ, PassesAt CX0 X σ (E σ) := fun _ _ _ _ _ _ _ h => h.elim
/-- a def of the program as the others see it -/
structure Cal (P : Program) (w : World) (K : PySem.W.Frag) (mg : Str → Option Value) (base : Heap) (CX : CXT) (k : Nat) (x : Str) (ps : List Str) (sp : Sp) where
  f : Addr
  fd : FuncData
  ok : FnOk P w K mg base CX k f fd ps sp
  mg : mg x = some (.ref f)
  kp : PySem.W.keepIn K (.ref f) = true
  bd : Binds K fd ps []
/-- behind a statement that may leave -/
def R.seqX {ε α β τ : Type} (m : R ε (α ⊕ β)) (f : β → τ) (k : α → R ε τ) : R ε τ := m.bind fun a => match a with | .inl a => k a | .inr c => .ok (f c)
theorem ds_seqX [Inhabited α] {ρ1 : α → Ev X.K} {m : R ε (α ⊕ β)} {f : β → τ} {k : α → R ε τ} (h : DS1 X J ρ st t (ocX ρ1 fun c => (I (f c)).noNx) m) (hr : ∀ a, DS X J (ρ1 a) rest u I (k a)) (hJ : ∀ c, (I (f c)).isNx = false ∧ True) :
    DS X J ρ (st :: rest) (tSeq t u) I (m.seqX f k) := ds_seq h hr fun c => ⟨rfl, (hJ c).1⟩
/-- a slot seen as another type -/
theorem ds_conv {T : Ty X.K α} {U : Ty X.K β} {a : α} {f : α → β} {m : R ε τ} {i : Nat} {sts : List Stmt} {ts : TS} (hi : ρ[i]? = some (some (.pl T a))) (hc : ∀ {F v}, T.rel a F v → U.rel (f a) F v) (h : DS X J (ρ.set i (some (.pl U (f a)))) sts ts I m) : DS X J ρ sts ts I m :=
  ⟨h.ps, fun b F σ H D S q => by
    obtain ⟨v, e1, r⟩ := S.sl i _ hi
    have S' := S.setP (i := i) (T := U) (a := f a) (v := v) (hc r)
    have e : σ.set i (some v) = σ := by
      apply List.ext_getElem?
      intro j
      by_cases hj : i = j
      · subst hj
        rw [List.getElem?_set_self (List.getElem?_eq_some_iff.mp e1).1, e1]
      · rw [List.getElem?_set_ne hj]
    rw [e] at S'
    exact h.ev b F σ H D S' q⟩
/-- a slot that holds no None -/
theorem ds_unopt {T : Ty X.K α} [Inhabited α] {a : Option α} {k : α → R ε τ} {i : Nat} {sts : List Stmt} {ts : TS} (hi : ρ[i]? = some (some (.pl (yOpt T) a))) (h : ∀ x, DS X J (ρ.set i (some (.pl T x))) sts ts I (k x)) : DS X J ρ sts ts I ((unO a).bind k) := by
  cases a with
  | none => exact ⟨(h default).ps, fun b F σ H D S q => (show False from q).elim⟩
  | some x => exact ds_conv (f := fun _ => x) hi (fun r => r.1) (h x)
def fuel : Nat := 1000000000
theorem nn_tup {U : Tys K α} {a : α} {F : Hp} {v : V} (h : (yTup U).rel a F v) : v ≠ .non := by obtain ⟨p, xs, h, _⟩ := h; subst h; exact fun z => by cases z
/-- a tuple of fixed length as a row -/
structure Tl {α β : Type} (U : Tys K α) (T : Ty K β) (f : α → List β) : Prop where
  ok : ∀ {a : α} {F : Hp} {vs : List V}, U.rel a F vs → T.all (f a) F vs
theorem tl_1 {T : Ty K α} : Tl (tys1 T) T (fun a => [a]) := ⟨fun ⟨v, e, r⟩ => by subst e; exact .cons r .nil⟩
theorem tl_C {T : Ty K β} {U : Tys K α} {f : α → List β} (h : Tl U T f) : Tl (tysC T U) T (fun a => a.1 :: f a.2) := ⟨fun ⟨v, vs, e, r, q⟩ => by subst e; exact .cons r (h.ok q)⟩
theorem Tl.rel {U : Tys K α} {T : Ty K β} {f : α → List β} (h : Tl U T f) {a : α} {F : Hp} {v : V} (r : (yTup U).rel a F v) : (yTupOf T).rel (f a) F v := by
  obtain ⟨p, xs, h1, h2, h3⟩ := r
  exact ⟨p, xs, h1, h2, h.ok h3⟩
theorem len_tupN {U : Tys K α} {n : Nat} (h : U.n = n) : Len (yTup U) (fun _ => n) := ⟨fun {a F H v} e ⟨p, xs, h1, h2, h3⟩ => by subst h1; exact .inr ⟨xs, Same.sqt e h2, ((U.len h3).trans h).symm⟩⟩
end
section
variable {α β : Type} {X : Cx} {J : Jc X.K ε} {ρ : Ev X.K} {e e' : Expr} {rest : List Expr} {pos : Pos} {t t' : TE}
theorem andok (c d : Bool) : (if c then (R.ok d : R ε Bool) else .ok false) = .ok (c && d) := by cases c <;> rfl
theorem orok (c d : Bool) : (if c then (R.ok true : R ε Bool) else .ok d) = .ok (c || d) := by cases c <;> rfl
end
end Cp
namespace Cp
open PySem PySem.Spec L2
open PyProof.Rows hiding St
variable {K : PySem.W.Frag} {ε : Type}
section
variable {α β : Type}
structure Lt {α β : Type} (U : Tys K β) (T : Ty K α) (g : List α → Option β) : Prop where
  ok : ∀ {l : List α} {b : β} {F : Hp} {vs : List V}, g l = some b → T.all l F vs → U.rel b F vs
variable {X : Cx} {J : Jc X.K ε} {ρ : Ev X.K} {e : Expr} {t : TE}
end
end Cp
namespace Cp
open PySem PySem.Spec L2
variable {ε : Type}
section
variable {α : Type} {X : Cx} {J : Jc X.K ε} {ρ : Ev X.K}
theorem dec {ex : Expr} {t t' : TE} {P : Rk X.K α} {m : R ε α} (h : DE X J ρ ex t P m) (e : t = t') : DE X J ρ ex t' P m := e ▸ h
theorem dtc {ifs : List Expr} {t t' : TT} {m : R ε Bool} (h : DTs X J ρ ifs t m) (e : t = t') : DTs X J ρ ifs t' m := e ▸ h
theorem dgc {tg : Expr} {g g' : TG} {T : Ty X.K α} {ρ' : α → Ev X.K} {ix : List Nat} (h : DG X ρ tg g T ρ' ix) (e : g = g') : DG X ρ tg g' T ρ' ix := e ▸ h
end
end Cp
namespace Cp
open PySem PySem.Spec
section
variable {ε α β s θ : Type}
/-- it gives a value, and P holds of it -/
def wp (m : R ε α) (P : α → Prop) : Prop := ∃ a, m = .ok a ∧ P a
theorem wp_ok {a : α} {P : α → Prop} : wp (R.ok a : R ε α) P ↔ P a := ⟨fun ⟨b, e, h⟩ => by cases e; exact h, fun h => ⟨a, rfl, h⟩⟩
theorem wp_bind {m : R ε α} {k : α → R ε β} {P : β → Prop} : wp (m.bind k) P ↔ wp m fun a => wp (k a) P := by
  cases m with
  | ok a => exact ⟨fun h => ⟨a, rfl, h⟩, fun ⟨b, e, h⟩ => by cases e; exact h⟩
  | exn e => exact ⟨fun ⟨b, e, _⟩ => (nomatch e), fun ⟨b, e, _⟩ => (nomatch e)⟩
  | bad => exact ⟨fun ⟨b, e, _⟩ => (nomatch e), fun ⟨b, e, _⟩ => (nomatch e)⟩
theorem wp_ite {c : Prop} [Decidable c] {m1 m2 : R ε α} {P : α → Prop} : wp (if c then m1 else m2) P ↔ (c → wp m1 P) ∧ (¬ c → wp m2 P) := by
  by_cases h : c
  · rw [if_pos h]; exact ⟨fun q => ⟨fun _ => q, fun z => (z h).elim⟩, fun q => q.1 h⟩
  · rw [if_neg h]; exact ⟨fun q => ⟨fun z => (h z).elim, fun _ => q⟩, fun q => q.2 h⟩
theorem wp.mono {m : R ε α} {P Q : α → Prop} (h : wp m P) (hq : ∀ a, P a → Q a) : wp m Q := let ⟨a, e, p⟩ := h; ⟨a, e, hq a p⟩
theorem wp.eq {m : R ε α} {c : α} (h : wp m (· = c)) : m = .ok c := by obtain ⟨a, e, rfl⟩ := h; exact e
theorem ixN_ok {n : Nat} {i : Int} (h0 : 0 ≤ i) (h1 : i < n) : L2.ixN n i = some i.toNat := by
  unfold L2.ixN
  simp only [h0, if_true]
  split
  · rfl
  · omega
theorem atI_ok {l : List α} {i : Int} (h0 : 0 ≤ i) (h1 : i < l.length) : L2.atI l i = some (l[i.toNat]'(by omega)) := by
  unfold L2.atI
  rw [ixN_ok h0 h1]
  exact List.getElem?_eq_getElem _
theorem wp_ix {l : List α} {i : Int} {P : α → Prop} (h0 : 0 ≤ i) (h1 : i < l.length) (h : ∀ (hi : i.toNat < l.length), P (l[i.toNat])) : wp (rIx l i : R ε α) P := by
  unfold rIx
  rw [atI_ok h0 h1]
  exact ⟨_, rfl, h (by omega)⟩
theorem rIx_ok {l : List α} {i : Int} (h0 : 0 ≤ i) (h1 : i < l.length) : (rIx l i : R ε α) = .ok (l[i.toNat]'(by omega)) := by
  unfold rIx
  rw [atI_ok h0 h1]
theorem rIx_last {l : List α} (h : l ≠ []) : (rIx l (-1) : R ε α) = .ok (l.getLast h) := by
  have hl := List.length_pos_iff.mpr h
  have : L2.atI l (-1) = some (l.getLast h) := by
    unfold L2.atI L2.ixN
    have e : ¬ (0 : Int) ≤ -1 := by omega
    simp only [e, if_false]
    rw [List.getLast_eq_getElem h]
    have e2 : -(l.length : Int) ≤ -1 := by omega
    simp only [e2, if_true]
    show l[(-1 + (l.length : Int)).toNat]? = _
    rw [show (-1 + (l.length : Int)).toNat = l.length - 1 by omega]
    exact List.getElem?_eq_getElem _
  unfold rIx
  rw [this]
theorem wp_rng {lo hi : Int} {P : List Int → Prop} (h1 : -4611686018427387904 ≤ lo) (h2 : lo < 4611686018427387904) (h3 : -4611686018427387904 ≤ hi) (h4 : hi < 4611686018427387904) (h : P (rng lo hi)) : wp (rRng lo hi : R ε _) P := by
  refine ⟨_, ?_, h⟩
  unfold rRng
  have a : fit62 lo = true := decide_eq_true (by omega)
  have b : fit62 hi = true := decide_eq_true (by omega)
  rw [a, b]
  rfl
theorem rRng_ok {lo hi : Int} (h1 : -4611686018427387904 ≤ lo) (h2 : lo < 4611686018427387904) (h3 : -4611686018427387904 ≤ hi) (h4 : hi < 4611686018427387904) : (rRng lo hi : R ε _) = .ok (rng lo hi) := (wp_rng (P := (· = rng lo hi)) h1 h2 h3 h4 rfl).eq
theorem rng_get {lo hi : Int} {i : Nat} {x : Int} (h : (rng lo hi)[i]? = some x) : x = lo + i ∧ (i : Int) < hi - lo := by
  unfold rng at h
  rw [List.getElem?_map] at h
  by_cases hi' : i < (hi - lo).toNat
  · rw [List.getElem?_range hi'] at h
    cases h
    exact ⟨rfl, by omega⟩
  · rw [List.getElem?_eq_none (by rw [List.length_range]; omega)] at h; cases h
theorem rng_mem {lo hi x : Int} : x ∈ rng lo hi ↔ lo ≤ x ∧ x < hi := by
  unfold rng
  rw [List.mem_map]
  constructor
  · rintro ⟨i, hi', rfl⟩
    rw [List.mem_range] at hi'
    omega
  · rintro ⟨h1, h2⟩
    exact ⟨(x - lo).toNat, by rw [List.mem_range]; omega, by omega⟩
theorem wp_mul {i j : Int} {P : Int → Prop} (h : (-18446744073709551616 < i ∧ i < 18446744073709551616) ∨ (-18446744073709551616 < j ∧ j < 18446744073709551616)) (hp : P (i * j)) : wp (rMul i j : R ε Int) P := by
  refine ⟨_, ?_, hp⟩
  unfold rMul
  rw [if_pos (by omega)]
theorem wp_div {i j : Int} {P : Int → Prop} (h : 0 < j ∧ j < 1073741824) (hp : P (i / j)) : wp (rDiv i j : R ε Int) P := ⟨_, by unfold rDiv; rw [if_pos h], hp⟩
theorem wp_mod {i j : Int} {P : Int → Prop} (h : 0 < j) (hp : P (i % j)) : wp (rMod i j : R ε Int) P := ⟨_, by unfold rMod; rw [if_pos h], hp⟩
theorem wp_pow {i j : Int} {P : Int → Prop} (h : 0 ≤ j ∧ j ≤ 1000000) (h2 : i.natAbs < 18446744073709551616) (hp : P (i ^ j.toNat)) : wp (rPow i j : R ε Int) P := ⟨_, by unfold rPow; rw [if_pos (by omega)], hp⟩
theorem wp_app {l : List α} {a : α} {P : α → Prop} (h : l.length < 16777216) (hp : P a) : wp (rApp l a : R ε α) P := ⟨_, by unfold rApp; rw [if_pos (by rw [sizeLine_eq]; exact h)], hp⟩
theorem wp_cat {l r : List α} {P : List α → Prop} (h : l.length + r.length ≤ 16777216) (hp : P (l ++ r)) : wp (rCatL l r : R ε _) P := ⟨_, by unfold rCatL; rw [if_pos (by rw [sizeLine_eq]; exact h)], hp⟩
theorem wp_rep {l : List α} {k : Int} {P : List α → Prop} (h : 0 ≤ k ∧ k < 16777216) (h2 : l.length * k.toNat ≤ 16777216) (hp : P (List.replicate k.toNat l).flatten) : wp (rRepL l k : R ε _) P := ⟨_, by unfold rRepL; rw [if_pos ⟨by omega, by rw [sizeLine_eq]; exact h2⟩], hp⟩
theorem rep1 (a : α) : ∀ n : Nat, (List.replicate n [a]).flatten = List.replicate n a
  | 0 => rfl
  | n + 1 => by rw [List.replicate_succ, List.flatten_cons, rep1 a n]; rfl
theorem wp_forSn {f : α → s → R ε s} (Iv : Nat → s → Prop) {P : s → Prop} {l : List α} {a : s} (h0 : Iv 0 a) (h : ∀ i x, l[i]? = some x → ∀ a, Iv i a → wp (f x a) (Iv (i + 1))) (hp : ∀ a, Iv l.length a → P a) : wp (forS f l a) P := by
  have key : ∀ (l' : List α) (i : Nat) (a : s), l.drop i = l' → i ≤ l.length → Iv i a → wp (forS f l' a) P := by
    intro l'
    induction l' with
    | nil =>
      intro i a e hi h0
      have : i = l.length := by have := congrArg List.length e; simp at this; omega
      subst this
      exact ⟨a, rfl, hp a h0⟩
    | cons x l' ih =>
      intro i a e hi h0
      have hx : l[i]? = some x := by
        have z := congrArg (fun r => r[0]?) e
        simpa using z
      unfold forS
      rw [wp_bind]
      refine (h i x hx a h0).mono fun a' h' => ih (i + 1) a' ?_ ?_ h'
      · have := congrArg List.tail e
        simpa using this
      · have : i < l.length := (List.getElem?_eq_some_iff.mp hx).1
        omega
  exact key l 0 a rfl (Nat.zero_le _) h0
/-- a display with a test -/
theorem lcM_pure {mt : α → R ε Bool} {f : α → R ε β} (p : α → Bool) (g : α → β) : ∀ {l : List α}, (∀ x ∈ l, mt x = .ok (p x)) → (∀ x ∈ l, p x = true → f x = .ok (g x)) → lcM mt f l = .ok ((l.filter p).map g)
  | [], _, _ => rfl
  | x :: l, h1, h2 => by
    unfold lcM
    rw [h1 x List.mem_cons_self, R.bind_ok, lcM_pure p g (fun y hy => h1 y (List.mem_cons_of_mem _ hy)) fun y hy => h2 y (List.mem_cons_of_mem _ hy)]
    cases e : p x with
    | true => rw [if_pos rfl, h2 x List.mem_cons_self e, List.filter_cons_of_pos e]; rfl
    | false => rw [if_neg Bool.false_ne_true, List.filter_cons_of_neg (by rw [e]; exact Bool.false_ne_true)]
theorem wp_lc {mt : α → R ε Bool} {f : α → R ε β} (p : α → Bool) (g : α → β) {l : List α} {P : List β → Prop} (hl : l.length ≤ 16777216) (h1 : ∀ x ∈ l, mt x = .ok (p x)) (h2 : ∀ x ∈ l, p x = true → f x = .ok (g x)) (hp : P ((l.filter p).map g)) : wp (lcR mt f l) P := by
  refine ⟨_, ?_, hp⟩
  unfold lcR
  rw [if_pos (by rw [sizeLine_eq]; exact hl), lcM_pure p g h1 h2]
  rfl
/-- without a test, item by item -/
theorem wp_map {f : α → R ε β} (Q : α → β → Prop) {l : List α} {P : List β → Prop} (hl : l.length ≤ 16777216) (h : ∀ x ∈ l, wp (f x) (Q x)) (hp : ∀ r : List β, r.length = l.length → (∀ (i : Nat) (x : α) (y : β), l[i]? = some x → r[i]? = some y → Q x y) → P r) : wp (lcR (fun _ => .ok true) f l) P := by
  have key : ∀ l : List α, (∀ x ∈ l, wp (f x) (Q x)) → ∃ r, lcM (fun _ => .ok true) f l = .ok r ∧ r.length = l.length ∧ ∀ (i : Nat) (x : α) (y : β), l[i]? = some x → r[i]? = some y → Q x y := by
    intro l
    induction l with
    | nil => exact fun _ => ⟨[], rfl, rfl, fun i x y e => by simp at e⟩
    | cons x l ih =>
      intro h
      obtain ⟨r, e, el, hr⟩ := ih fun y hy => h y (List.mem_cons_of_mem _ hy)
      obtain ⟨y, ey, hy⟩ := h x List.mem_cons_self
      refine ⟨y :: r, ?_, by rw [List.length_cons, List.length_cons, el], fun i a b => ?_⟩
      · unfold lcM
        rw [R.bind_ok, if_pos rfl, ey, R.bind_ok, e, R.bind_ok]
      · cases i with
        | zero => intro e1 e2; simp at e1 e2; subst e1; subst e2; exact hy
        | succ i => intro e1 e2; exact hr i a b (by simpa using e1) (by simpa using e2)
  obtain ⟨r, e, el, hr⟩ := key l h
  refine ⟨r, ?_, hp r el hr⟩
  unfold lcR
  rw [if_pos (by rw [sizeLine_eq]; exact hl), e]
  rfl
theorem memB_of [DecidableEq α] {a : α} {l : List α} (h : a ∈ l) : memB a l = true := decide_eq_true h
theorem memB_no [DecidableEq α] {a : α} {l : List α} (h : a ∉ l) : memB a l = false := decide_eq_false h
theorem memB_iff [DecidableEq α] {a : α} {l : List α} : memB a l = true ↔ a ∈ l := decide_eq_true_iff
theorem rng_pw (lo hi : Int) : (rng lo hi).Pairwise (· < ·) := by
  unfold rng
  rw [List.pairwise_map]
  exact List.pairwise_lt_range.imp fun h => by omega
end
end Cp
namespace Cp
open PySem PySem.Spec L2
open PyProof.Rows hiding St
variable {K : PySem.W.Frag} {ε : Type}
mutual
/-- v is the key k -/
def NK (K : PySem.W.Frag) (H : Hp) : NestedKey → V → Prop
  | .none, v => v = .non
  | .num i, v => v = .int i
  | .text x, v => v = .str x
  | .tup ks, v => ∃ p xs, v = .ref p ∧ SqT K H p xs ∧ NKs K H ks xs
def NKs (K : PySem.W.Frag) (H : Hp) : List NestedKey → List V → Prop
  | [], vs => vs = []
  | k :: ks, vs => ∃ v r, vs = v :: r ∧ NK K H k v ∧ NKs K H ks r
end
mutual
theorem NK.mono {H H' : Hp} (e : Same H H') : ∀ (k : NestedKey) (v : V), NK K H k v → NK K H' k v
  | .none, v, h => by rw [NK] at h ⊢; exact h
  | .num i, v, h => by rw [NK] at h ⊢; exact h
  | .text x, v, h => by rw [NK] at h ⊢; exact h
  | .tup ks, v, h => by
    rw [NK] at h ⊢
    obtain ⟨p, xs, h1, h2, h3⟩ := h
    exact ⟨p, xs, h1, Same.sqt e h2, NKs.mono e ks xs h3⟩
theorem NKs.mono {H H' : Hp} (e : Same H H') : ∀ (ks : List NestedKey) (vs : List V), NKs K H ks vs → NKs K H' ks vs
  | [], vs, h => by rw [NKs] at h ⊢; exact h
  | k :: ks, vs, h => by
    rw [NKs] at h ⊢
    obtain ⟨v, r, h1, h2, h3⟩ := h
    exact ⟨v, r, h1, NK.mono e k v h2, NKs.mono e ks r h3⟩
end
section
variable {X : Cx} {pins : List (Addr × Obj)} {σ : St} {H : Hp} {s : Shared}
mutual
theorem nk_is (I : Inv X pins σ H s) : ∀ (k : NestedKey) (v : V) (u : Value), NK X.K H k v → RelV v u → NestedIs s.heap k u
  | .none, v, u, h, r => by
    rw [NK] at h; subst h
    cases r; exact .none
  | .num i, v, u, h, r => by
    rw [NK] at h; subst h
    obtain ⟨t, rfl⟩ := r; exact .int _ _
  | .text x, v, u, h, r => by
    rw [NK] at h; subst h
    obtain ⟨t, rfl⟩ := r; exact .text _ _
  | .tup ks, v, u, h, r => by
    rw [NK] at h
    obtain ⟨p, xs, rfl, h2, h3⟩ := h
    cases r
    obtain ⟨its, r2, ⟨o, e1, e2, n, e3⟩, _⟩ := I.tuple h2
    exact .tup e1 e2 e3 (by rw [List.toList_toArray]; exact nks_are I ks xs its h3 r2)
theorem nks_are (I : Inv X pins σ H s) : ∀ (ks : List NestedKey) (vs : List V) (us : List Value), NKs X.K H ks vs → Vals vs us → NestedAll s.heap ks us
  | [], vs, us, h, r => by
    rw [NKs] at h; subst h
    cases r; exact .nil
  | k :: ks, vs, us, h, r => by
    rw [NKs] at h
    obtain ⟨v, vr, rfl, h2, h3⟩ := h
    cases r with
    | cons r1 r2 => exact .cons (nk_is I k _ _ h2 r1) (nks_are I ks _ _ h3 r2)
end
end
/-- a type whose values may be (parts of) keys -/
structure Ky {α : Type} (K : PySem.W.Frag) (T : Ty K α) where
  key : α → NestedKey
  is : ∀ {a : α} {F : Hp} {v : V}, T.rel a F v → NK K F (key a) v
  inj : ∀ {a b : α}, key a = key b → a = b
  d : Nat
  dep : ∀ a, (key a).depth ≤ d
structure Kys {α : Type} (K : PySem.W.Frag) (U : Tys K α) where
  keys : α → List NestedKey
  are : ∀ {a : α} {F : Hp} {vs : List V}, U.rel a F vs → NKs K F (keys a) vs
  inj : ∀ {a b : α}, keys a = keys b → a = b
  d : Nat
  dep : ∀ a, NestedKey.depthAll (keys a) ≤ d
section
variable {α β : Type}
def kInt : Ky K (yInt (K := K)) := ⟨.num, fun {a F v} h => by rw [NK]; exact h, fun h => by cases h; rfl, 0, fun a => by rw [NestedKey.depth]; exact Nat.le_refl 0⟩
def ks1 {T : Ty K α} (k : Ky K T) : Kys K (tys1 T) := ⟨fun a => [k.key a], fun {a F vs} ⟨v, e, r⟩ => by
    rw [NKs]
    exact ⟨v, [], e, k.is r, by rw [NKs]⟩, fun h => k.inj (List.cons.inj h).1, k.d, fun a => by rw [NestedKey.depthAll, NestedKey.depthAll]; exact Nat.max_le.mpr ⟨k.dep a, Nat.zero_le _⟩⟩
def ksC {T : Ty K α} {U : Tys K β} (k : Ky K T) (ks : Kys K U) : Kys K (tysC T U) := ⟨fun a => k.key a.1 :: ks.keys a.2, fun {a F vs} ⟨v, r, e, h1, h2⟩ => by
    rw [NKs]
    exact ⟨v, r, e, k.is h1, ks.are h2⟩, fun {a b} h => by
    have h1 : k.key a.1 = k.key b.1 := (List.cons.inj h).1
    have h2 : ks.keys a.2 = ks.keys b.2 := (List.cons.inj h).2
    exact Prod.ext (k.inj h1) (ks.inj h2), max k.d ks.d, fun a => by rw [NestedKey.depthAll]; exact Nat.max_le.mpr ⟨Nat.le_trans (k.dep _) (Nat.le_max_left ..), Nat.le_trans (ks.dep _) (Nat.le_max_right ..)⟩⟩
def kTup {U : Tys K α} (ks : Kys K U) : Ky K (yTup U) := ⟨fun a => .tup (ks.keys a), fun {a F v} ⟨p, xs, h1, h2, h3⟩ => by
    rw [NK]
    exact ⟨p, xs, h1, h2, ks.are h3⟩, fun h => ks.inj (NestedKey.tup.inj h), ks.d + 1, fun a => by rw [NestedKey.depth]; exact Nat.succ_le_succ (ks.dep a)⟩
end
abbrev En := NestedKey × Addr × V
abbrev EP : List En → List (NestedKey × Addr × Value) → Prop := Paired fun x y => x.1 = y.1 ∧ x.2.1 = y.2.1 ∧ RelV x.2.2 y.2.2
def dN (P : Program) (w : World) (p : Addr) (xs : List En) (o : Obj) : HO := .ext fun h => h.get? p = some o ∧ xs.length ≤ sizeLine ∧ (p == sysModules) = false ∧ ∃ ys, EP xs ys ∧
  ∃ es ep, o.ExactDict ∧ o.data = .dict es ep ∧ es.toList = ys.map (entryOfKey (nestedKind P w)) ∧ (ys.map (·.1)).Nodup
def stN (xs : List En) (k : NestedKey) (a : Addr) (v : V) : List En := if (xs.any fun x => decide (x.1 = k)) then xs.map fun x => if x.1 = k then (x.1, x.2.1, v) else x else xs ++ [(k, a, v)]
theorem EP.any {xs : List En} {ys : List (NestedKey × Addr × Value)} (h : EP xs ys) (k : NestedKey) : (xs.any fun x => decide (x.1 = k)) = (atKey ys k).isSome := by
  induction h with
  | nil => rfl
  | @cons x y xs ys r t ih =>
    unfold atKey at ih ⊢
    rw [List.any_cons, List.find?_cons, ih, r.1]
    by_cases e : y.1 = k
    · simp [e]
    · simp [e]
theorem EP.st {xs : List En} {ys : List (NestedKey × Addr × Value)} (h : EP xs ys) (k : NestedKey) (a : Addr) {v : V} {u : Value} (r : RelV v u) : EP (stN xs k a v) (storedH ys k a u) := by
  unfold stN storedH
  rw [h.any k]
  split
  · rename_i hz
    clear hz
    induction h with
    | nil => exact .nil
    | @cons x y xs ys q t ih =>
      rw [List.map_cons, List.map_cons]
      refine .cons ?_ ih
      unfold putAt
      rw [q.1]
      by_cases e : y.1 = k
      · rw [if_pos e, if_pos e]; exact ⟨rfl, q.2.1, r⟩
      · rw [if_neg e, if_neg e]; exact q
  · exact prd_app h (.cons ⟨rfl, rfl, r⟩ .nil)
theorem stN_len (xs : List En) (k : NestedKey) (a : Addr) (v : V) : (stN xs k a v).length ≤ xs.length + 1 := by
  unfold stN
  split
  · rw [List.length_map]; exact Nat.le_succ _
  · rw [List.length_append]; exact Nat.le_refl _
section
variable {X : Cx} {pins : List (Addr × Obj)} {σ : St} {H : Hp} {s : Shared} {p : Addr} {xs : List En}
theorem dn_new {P : Program} {w : World} {H' : Hp} {h' : Heap} {ys : List (NestedKey × Addr × Value)} (hl : xs.length ≤ sizeLine) (hd : (p == sysModules) = false) (e : EP xs ys) (D : h'.DictOfH (nestedKind P w) p ys) {o : Obj} (ho : h'.get? p = some o) : ObjOk P w H' h' p (dN P w p xs o) := by
  obtain ⟨o', es, ep, h1, h2, h3, h4, _, h6⟩ := D
  rw [ho] at h1; cases h1
  exact ⟨⟨ho, hl, hd, ys, e, es, ep, h2, h3, h4, h6⟩, ⟨o, ho⟩, fun a b ⟨g0, g⟩ k => ⟨k _ g0, g⟩⟩
theorem dn_full {o : Obj} (I : Inv X pins σ H s) (hp : H p = some (dN X.prog X.w p xs o)) (hk : ∀ x ∈ xs, NK X.K H x.1 (.ref x.2.1) ∧ x.1.depth ≤ 8) : xs.length ≤ sizeLine ∧ (p == sysModules) = false ∧ ∃ ys, EP xs ys ∧ s.heap.DictOfH (nestedKind X.prog X.w) p ys := by
  obtain ⟨⟨g4, g1, g2, ys, g3, es, ep, g5, g6, g7, g8⟩, gz⟩ := (show ObjOk X.prog X.w H s.heap p (dN X.prog X.w p xs o) from I.hok p _ hp)
  refine ⟨g1, g2, ys, g3, o, es, ep, g4, g5, g6, g7, ?_, g8⟩
  clear g4 g5 g6 g7 g8 hp g1 g2 gz
  induction g3 with
  | nil => exact fun x h => by cases h
  | @cons x y xs ys q t ih =>
    intro z hz
    rcases List.mem_cons.mp hz with e | hz
    · subst e
      obtain ⟨k1, k2⟩ := hk x List.mem_cons_self
      refine ⟨?_, ?_⟩
      · rw [← q.1, ← q.2.1]; exact nk_is I _ _ _ k1 rfl
      · rw [← q.1]; exact k2
    · exact ih (fun x hx => hk x (List.mem_cons_of_mem _ hx)) z hz
theorem EP.get {ys : List (NestedKey × Addr × Value)} (h : EP xs ys) {k : NestedKey} : match xs.find? fun x => decide (x.1 = k) with
    | some x => ∃ u, atKey ys k = some (x.2.1, u) ∧ RelV x.2.2 u
    | none => atKey ys k = none := by
  induction h with
  | nil => rfl
  | @cons x y xs ys r t ih =>
    unfold atKey at ih ⊢
    rw [List.find?_cons, List.find?_cons, r.1]
    by_cases e : y.1 = k
    · rw [decide_eq_true e]
      exact ⟨y.2.2, by rw [r.2.1]; rfl, r.2.2⟩
    · rw [decide_eq_false e]
      exact ih
end
end Cp
namespace Cp
open PySem PySem.Spec L2
open PyProof.Rows hiding St
variable {K : PySem.W.Frag} {ε : Type}
/-- p is such a dict, its keys stand -/
def IsN (P : Program) (w : World) (K : PySem.W.Frag) (H : Hp) (p : Addr) (xs : List En) : Prop := (∃ o, H p = some (dN P w p xs o)) ∧ ∀ e ∈ xs, NK K H e.1 (.ref e.2.1) ∧ e.1.depth ≤ 8
def KeyN (K : PySem.W.Frag) (H : Hp) (k : NestedKey) (a : Addr) : Prop := NK K H k (.ref a) ∧ k.depth ≤ 8
def findN (xs : List En) (k : NestedKey) : Option En := xs.find? fun x => decide (x.1 = k)
def hasN (xs : List En) (k : NestedKey) : Bool := xs.any fun x => decide (x.1 = k)
section
variable {X : Cx} {pins : List (Addr × Obj)} {σ : St} {H : Hp} {s : Shared} {p a : Addr} {xs : List En} {k : NestedKey} {e e' o : Expr} {t t' to : TE} {pos : Pos}
theorem KeyN.is (h : KeyN X.K H k a) (I : Inv X pins σ H s) : (nestedKind X.prog X.w).is s.heap k a := ⟨nk_is I k _ _ h.1 rfl, h.2⟩
theorem roomN (hu : X.A.units + 64 < cLine) : (nestedKind X.prog X.w).room X.A.in1 := by
  show X.A.in1.units + 8 < cLine
  have : X.A.in1.units = X.A.units + 1 := rfl
  omega
def rInN (P : Program) (w : World) (K : PySem.W.Frag) (neg : Bool) : R2 := fun x y H Q => ∃ p xs k a, x = .ref a ∧ y = .ref p ∧ IsN P w K H p xs ∧ KeyN K H k a ∧ Q (.bl (if neg then !hasN xs k else hasN xs k)) H
theorem op_inN (hu : X.A.units + 64 < cLine) : OpR X (compareOp .In) (rInN X.prog X.w X.K false) := by
  intro pins s σ H x y v u Q I rx ry ⟨p, xs, k, a, h1, h2, ⟨⟨o, h3⟩, h4⟩, h5, q⟩
  subst h1 h2
  cases rx; cases ry
  obtain ⟨_, hd, ys, e, D⟩ := dn_full I h3 h4
  refine wpAny_in_heap (roomN hu) (h5.is I) hd D ?_
  rw [← e.any k]
  exact ⟨.bl _, H, I.tok _, rfl, q⟩
/-- d[k] -/
def tGetN (P : Program) (w : World) (K : PySem.W.Frag) (td ty : TE) : TE := fun σ H Q => td σ H fun x H1 => ty σ H1 fun y H2 => ∃ p xs k a z, x = .ref p ∧ y = .ref a ∧ IsN P w K H2 p xs ∧ KeyN K H2 k a ∧ findN xs k = some z ∧ Q z.2.2 H2
theorem pe_getN (hu : X.A.units + 64 < cLine) (ho : PE X e t) (hi : PE X e' t') (hs : NoSl e') : PE X (.Subscript e e' pos) (tGetN X.prog X.w X.K t t') := by
  refine ⟨fun pins s σ H Q I h => ?_⟩
  refine subD_of PySem.F.slot_dict_getitem.lookup hs (thn (ho.run pins s σ H _ I h) fun u s1 ⟨x, H1, I1, rx, q1⟩ => thn (hi.run pins s1 σ H1 _ I1 q1) fun iv s2 ⟨y, H2, I2, ry, p, xs, k, a, z, ex, ey, ⟨⟨o, h3⟩, h4⟩, h5, hz, q2⟩ => ?_)
  subst ex ey
  cases rx; cases ry
  obtain ⟨_, hd, ys, e, D⟩ := dn_full I2 h3 h4
  have g := e.get (k := k)
  rw [show (xs.find? fun x => decide (x.1 = k)) = some z from hz] at g
  obtain ⟨u, g1, g2⟩ := g
  exact ⟨D.typeIs, wpAny_getItem_heap (roomN hu) (h5.is I2) D g1 ⟨z.2.2, H2, I2.tok _, g2, q2⟩⟩
/-- d[k] = v -/
def rSetN (P : Program) (w : World) (K : PySem.W.Frag) : V → V → V → Hp → (Hp → Prop) → Prop := fun o i v H Q => ∃ p xs k a, o = .ref p ∧ i = .ref a ∧ IsN P w K H p xs ∧ KeyN K H k a ∧ xs.length < sizeLine ∧ ∀ o', Q (upd H p (dN P w p (stN xs k a v) o'))
theorem dn_put {o : Obj} {ys : List (NestedKey × Addr × Value)} {h' : Heap} {v : V} {u : Value} {n : Nat} (I : Inv X pins σ H s) (hp : H p = some (dN X.prog X.w p xs o)) (hd : (p == sysModules) = false) (e : EP xs ys) (r : RelV v u) (hl : xs.length < sizeLine)
    (D : h'.DictOfH (nestedKind X.prog X.w) p (storedH ys k a u)) (hs : Heap.SameBut p s.heap h') : ∃ o', Inv X pins σ (upd H p (dN X.prog X.w p (stN xs k a v) o')) { s with heap := h', toks := n } := by
  obtain ⟨o', ho⟩ : ∃ q, h'.get? p = some q := let ⟨q, _, _, hq, _⟩ := D; ⟨q, hq⟩
  exact ⟨o', d_write I (by rw [hp]; trivial) hs ⟨o', ho⟩ (dn_new (by have := stN_len xs k a v; omega) hd (e.st k a r) D ho)⟩
theorem set_N (hu : X.A.units + 64 < cLine) : PSet X (rSetN X.prog X.w X.K) := by
  intro pins s σ H _ _ v ov iv u Q I ro ri rv ⟨p, xs, k, a, h1, h2, ⟨⟨o, h3⟩, h4⟩, h5, hl, q⟩
  subst h1 h2
  cases ro; cases ri
  obtain ⟨hz, hd, ys, e, D⟩ := dn_full I h3 h4
  exact wpAny_setItem_heap (roomN hu) (h5.is I) D (fun h' D' hs => let ⟨o', I'⟩ := dn_put I h3 hd e rv hl D' hs; ⟨_, I', q o'⟩) (hsz := by rw [← Paired.length e]; exact hz)
/-- {} -/
def oN : Obj := { cls := .type "dict", data := .dict #[] }
def tNewN (P : Program) (w : World) : TE := fun _ H Q => ∀ p, H p = none → Q (.ref p) (upd H p (dN P w p [] oN))
theorem dn_empty {P : Program} {w : World} {H : Hp} (h : Heap) (hb : sysModules < h.objs.size) : ObjOk P w H (h.push { cls := .type "dict", data := .dict #[] }) h.objs.size (dN P w h.objs.size [] oN) :=
  dn_new (Nat.zero_le _) (beq_eq_false_iff_ne.mpr (Ne.symm (Nat.ne_of_lt hb))) .nil (Heap.DictOfH.new h) (Heap.get?_push_size _ rfl)
theorem pe_newN : PE X (.Dict [] [] pos) (tNewN X.prog X.w) := ⟨fun pins s σ H Q I h =>
  wpAny_Dict_empty ⟨.ref s.heap.objs.size, _, I.laid (a := s.heap.objs.size) (t' := s.toks) (fun _ _ q => Heap.get?_push_of_some _ q) (Nat.le_refl _) (dn_empty s.heap I.big), rfl, h _ (I.hok.fresh (Nat.le_refl _))⟩⟩
end
section
variable {α β : Type} (P : Program) (w : World) {T : Ty K α} (k : Ky K T) (U : Ty K β)
def ER (F : Hp) (x : En) (a : α × β) : Prop := x.1 = k.key a.1 ∧ T.rel a.1 F (.ref x.2.1) ∧ U.rel a.2 F x.2.2
def cDic : Ct K (List (α × β)) := ⟨fun l F p o => ∃ xs ob, o = dN P w p xs ob ∧ Paired (ER k U F) xs l, fun e ⟨xs, ob, h, r⟩ => ⟨xs, ob, h, Paired.mapP r fun x a q => ⟨q.1, T.mono e q.2.1, U.mono e q.2.2⟩⟩, fun ⟨xs, ob, h, _⟩ => by subst h; trivial⟩
def yDic : Ty K (List (α × β)) := (cDic P w k U).ty
end
section
variable {α β : Type} {P : Program} {w : World} {T : Ty K α} {k : Ky K T} {U : Ty K β} {F : Hp} {xs : List En} {l : List (α × β)}
def dget [DecidableEq α] (l : List (α × β)) (a : α) : Option β := (l.find? fun x => decide (x.1 = a)).map (·.2)
def dhas [DecidableEq α] (l : List (α × β)) (a : α) : Bool := l.any fun x => decide (x.1 = a)
def dput [DecidableEq α] (l : List (α × β)) (a : α) (b : β) : List (α × β) := if dhas l a then l.map fun x => if x.1 = a then (x.1, b) else x else l ++ [(a, b)]
theorem er_has [DecidableEq α] (r : Paired (ER k U F) xs l) (a : α) : hasN xs (k.key a) = dhas l a := by
  unfold hasN dhas
  induction r with
  | nil => rfl
  | @cons x y xs l q t ih =>
    rw [List.any_cons, List.any_cons, ih, q.1]
    congr 1
    by_cases e : y.1 = a
    · simp [e]
    · rw [decide_eq_false e, decide_eq_false fun z => e (k.inj z)]
theorem er_find [DecidableEq α] (r : Paired (ER k U F) xs l) {a : α} {b : β} (h : dget l a = some b) : ∃ z, findN xs (k.key a) = some z ∧ U.rel b F z.2.2 := by
  unfold findN
  unfold dget at h
  induction r with
  | nil => cases h
  | @cons x y xs l q t ih =>
    rw [List.find?_cons] at h ⊢
    rw [q.1]
    by_cases e : y.1 = a
    · rw [decide_eq_true e] at h
      rw [decide_eq_true (congrArg k.key e)]
      cases h
      exact ⟨x, rfl, q.2.2⟩
    · rw [decide_eq_false e] at h
      rw [decide_eq_false fun z => e (k.inj z)]
      exact ih h
theorem er_put [DecidableEq α] (r : Paired (ER k U F) xs l) {a : α} {b : β} {q : Addr} {v : V} (ha : T.rel a F (.ref q)) (hb : U.rel b F v) : Paired (ER k U F) (stN xs (k.key a) q v) (dput l a b) := by
  have h := er_has r a
  unfold stN dput
  rw [show (xs.any fun x => decide (x.1 = k.key a)) = dhas l a from h]
  split
  · rename_i hz
    clear hz h
    induction r with
    | nil => exact .nil
    | @cons x y xs l q t ih =>
      rw [List.map_cons, List.map_cons]
      refine .cons ?_ ih
      rw [q.1]
      by_cases e : y.1 = a
      · rw [if_pos e, if_pos (congrArg k.key e)]; exact ⟨rfl, q.2.1, hb⟩
      · rw [if_neg e, if_neg fun z => e (k.inj z)]; exact q
  · exact prd_app r (.cons ⟨rfl, ha, hb⟩ .nil)
theorem er_keys (r : Paired (ER k U F) xs l) (hd : k.d ≤ 8) {H : Hp} (e : Same F H) : ∀ x ∈ xs, NK K H x.1 (.ref x.2.1) ∧ x.1.depth ≤ 8 := by
  induction r with
  | nil => exact fun x h => by cases h
  | @cons x y xs l q t ih =>
    intro z hz
    rcases List.mem_cons.mp hz with e2 | hz
    · subst e2
      rw [q.1]
      exact ⟨NK.mono e _ _ (k.is q.2.1), Nat.le_trans (k.dep _) hd⟩
    · exact ih z hz
end
section
variable {α β : Type} [DecidableEq α] {X : Cx} {J : Jc X.K ε} {ρ : Ev X.K} {e e' : Expr} {t t' : TE} {pos : Pos} {μ ν : Md} {T : Ty X.K α} {k : Ky X.K T} {U : Ty X.K β} {md : R ε (List (α × β))} {mk : R ε α}
/-- a key is a tuple: it stands at an address -/
structure AtRef {α : Type} (T : Ty K α) : Prop where
  at_ : ∀ {a : α} {F : Hp} {v : V}, T.rel a F v → ∃ p, v = .ref p
theorem ar_tup {U : Tys K α} : AtRef (yTup U) := ⟨fun ⟨p, _, h, _⟩ => ⟨p, h⟩⟩
theorem dic_at {F H : Hp} {l : List (α × β)} {v : V} (hd : k.d ≤ 8) (fh : Same F H) (r : (yDic X.prog X.w k U).rel l F v) : ∃ p xs, v = .ref p ∧ IsN X.prog X.w X.K H p xs ∧ Paired (ER k U F) xs l := by
  obtain ⟨p, o, h1, h2, xs, ob, h3, h4⟩ := r
  subst h3
  exact ⟨p, xs, h1, ⟨⟨ob, fh _ _ h2⟩, er_keys h4 hd fh⟩, h4⟩
theorem key_at {F H : Hp} {a : α} {v : V} (ar : AtRef T) (hd : k.d ≤ 8) (fh : Same F H) (r : T.rel a F v) : ∃ q, v = .ref q ∧ KeyN X.K H (k.key a) q := by
  obtain ⟨q, h⟩ := ar.at_ r
  subst h
  exact ⟨q, rfl, NK.mono fh _ _ (k.is r), Nat.le_trans (k.dep a) hd⟩
theorem dq_inN (ar : AtRef T) (hu : X.A.units + 64 < cLine) (ha : DE X J ρ e t (rV μ T) mk) (hb : DE X J ρ e' t' (rV ν (yDic X.prog X.w k U)) md) (hd : k.d ≤ 8 := by exact lo rfl) (hm : behindInMarks .In e' = false := by rfl) :
    DQ X J ρ (.Compare e [.In] [e'] pos) (tOp (rInN X.prog X.w X.K false) t t') (mk.bind fun a => md.bind fun l => .ok (dhas l a)) :=
  dq_cmp (op_inN hu) hm ha hb fun b F σ H x y v w Q S r1 r2 q => by
    obtain ⟨a, h1, h2⟩ := key_at (k := k) ar hd (Md.le S μ) r1
    obtain ⟨p, xs, h3, h4, h5⟩ := dic_at hd (Md.le S ν) r2
    refine ⟨p, xs, k.key x, a, h1, h3, h4, h2, ?_⟩
    rw [if_neg Bool.false_ne_true, er_has h5]
    exact PostE.here q S rfl
def rGet (l : List (α × β)) (a : α) : R ε β := unO (dget l a)
theorem de_getN (ar : AtRef T) (hu : X.A.units + 64 < cLine) (hb : DE X J ρ e t (rV ν (yDic X.prog X.w k U)) md) (ha : DE X J ρ e' t' (rV μ T) mk) (hd : k.d ≤ 8 := by exact lo rfl) (hs : NoSl e' := by exact fun _ _ => rfl) :
    DE X J ρ (.Subscript e e' pos) (tGetN X.prog X.w X.K t t') (rV ν U) (md.bind fun l => mk.bind fun a => rGet l a) :=
  ⟨pe_getN hu hb.pe ha.pe hs, fun b F σ H Q S q => hb.ev.then_ S q fun l F1 v H1 g1 S1 r1 q1 => ha.ev.then_ S1 q1 fun a F2 u H2 g2 S2 r2 q2 => by
    have r1 := Ty.mono (yDic X.prog X.w k U) (Md.mono g2 S1 ν) r1
    obtain ⟨p, xs, h3, h4, h5⟩ := dic_at hd (Md.le S2 ν) r1
    obtain ⟨c, h1, h2⟩ := key_at (k := k) ar hd (Md.le S2 μ) r2
    unfold rGet at q2
    cases z : dget l a with
    | none => rw [z] at q2; exact q2.elim
    | some y =>
      rw [z] at q2
      obtain ⟨zz, g1, g2⟩ := er_find h5 z
      exact ⟨p, xs, k.key a, c, zz, h3, h1, h4, h2, g1, PostE.here q2 S2 g2⟩⟩
theorem de_newN : DE X J ρ (.Dict [] [] pos) (tNewN X.prog X.w) (rF (cDic X.prog X.w k U)) (.ok ([] : List (α × β))) :=
  ⟨pe_newN, fun b F σ H Q S q p hp => q F _ _ (Gr.newH hp) (S.newH hp) ⟨p, _, rfl, hp, upd_same, S.freshF hp, [], _, rfl, .nil⟩⟩
theorem own_dic {b : B} {F : Hp} {σ : St} {H : Hp} {i : Nat} {l : List (α × β)} {P : Program} {w : World} {T : Ty K α} {k : Ky K T} {U : Ty K β} {ρ : Ev K} (S : Sta b ρ F σ H) (hi : ρ[i]? = some (some (.ow (cDic P w k U) l))) : ∃ p xs o, σ[i]? = some (some (.ref p)) ∧ H p = some (dN P w p xs o) ∧ Paired (ER k U F) xs l := by
  obtain ⟨v, e1, p, o, rfl, h1, h2, h3, xs, ob, rfl, h4⟩ := S.sl i _ hi
  exact ⟨p, xs, ob, e1, h1, h4⟩
/-- d[k] = v, an own dict -/
theorem ds_setN {i : Nat} {l : List (α × β)} {mv : R ε β} {o : Expr} {p2 : Pos} (ar : AtRef T) (hu : X.A.units + 64 < cLine) (ho : PE X o (tVar i)) (hi : ρ[i]? = some (some (.ow (cDic X.prog X.w k U) l))) (hk : DE X J ρ e' t' (rP T) mk) (ha : DE X J ρ e t (rP U) mv) (hd : k.d ≤ 8 := by exact lo rfl)
    (hs : swapsWithSole [.Subscript o e' p2] e pos.line X.env = pure false := by rfl) (hw : swappedStores [.Subscript o e' p2] e X.env = pure none := by rfl) (h1 : (assignEach [.Subscript o e' p2] X.env).map (·.2) = [assign (.Subscript o e' p2) X.env] := by rfl)
    (hA : ∀ v, assign (.Subscript o e' p2) X.env v = (do
      let ov ← holding [v] (eval o X.env)
      let iv ← holding [v, ov] (eval e' X.env)
      standAt p2
      holding [v, ov, iv] (setItem ov iv v)
      release [v, ov, iv] []) := by intro _; rfl) :
    DS1 X J ρ (.Assign [.Subscript o e' p2] e pos) (tAsg t (gSub (tVar i) t' (rSetN X.prog X.w X.K))) (fun (c : α × β) => .nx (ρ.set i (some (.ow (cDic X.prog X.w k U) (dput l c.1 c.2))))) (mv.bind fun b => mk.bind fun a => rApp l (a, b)) :=
  ⟨ps_asg ha.pe (pg_sub ho hk.pe (set_N hu) hA) hs hw h1, fun b F σ H D S q => ha.ev.thenS S q fun a F1 v H1 g1 S1 r1 q1 => by
    obtain ⟨p, xs, o1, e1, hp, h2⟩ := own_dic S1 hi
    refine ⟨_, e1, hk.ev.thenS S1 q1 fun c F2 u H2 g2 S2 r2 q2 => ?_⟩
    obtain ⟨p', xs', o2, e1', hp', h2'⟩ := own_dic S2 hi
    rw [e1] at e1'; cases e1'
    obtain ⟨kq, h3, h4⟩ := key_at (k := k) ar hd S2.fh r2
    subst h3
    unfold rApp at q2
    by_cases hz : l.length < sizeLine
    · rw [if_pos hz] at q2
      exact ⟨p, xs', k.key c, kq, rfl, rfl, ⟨⟨o2, hp'⟩, er_keys h2' hd S2.fh⟩, h4, by rw [Paired.length h2']; exact hz, fun o' => q2 F2 σ _ (Same.refl _) (S2.change hi e1 ⟨_, o', rfl, er_put h2' r2 (U.mono g2.f r1)⟩)⟩
    · rw [if_neg hz] at q2; exact q2.elim⟩
/-- an own dict is given up; looked at -/
theorem de_ownD {l : List (α × β)} {i : Nat} {P : Program} {w : World} (hp : PE X e (tVar i)) (hi : ρ[i]? = some (some (.ow (cDic P w k U) l))) : DE X J ρ e (tVar i) (rB (yDic P w k U)) (.ok l) := de_own hp hi fun h => h
end
end Cp
namespace Cp
open PySem PySem.Spec L2
open PyProof.Rows hiding St
variable {K : PySem.W.Frag} {ε : Type}
/-- a store by a display: D the dict, the key, the value -/
abbrev RPut := Addr → V → V → Hp → (Hp → Prop) → Prop
def PPut (X : Cx) (r : RPut) : Prop := ∀ (pins : List (Addr × Obj)) (s : Shared) (σ : St) (H : Hp) (D : Addr) (y z : V) (u v : Value) (Q : Hp → Prop), Inv X pins σ H s → RelV y u → RelV z v → r D y z H Q →
  wpAny (model X.prog X.w) X.A (dictSet D u v) (fun _ t => ∃ G, Inv X pins σ G t ∧ Q G) X.xe s
/-- the new dict's object -/
def PNew (X : Cx) (o : Addr → HO) : Prop := ∀ (H : Hp) (h : Heap), sysModules < h.objs.size → ObjOk X.prog X.w H (h.push { cls := .type "dict", data := .dict #[] }) h.objs.size (o h.objs.size)
def tDcG (o : Addr → HO) (r : RPut) (wi : TI) (g : TG) (tt : TT) (tk tv : TE) (vs : List Nat) : TE := fun σ H Q => wi σ H fun It G => ∀ D, G D = none → ∃ W : Nat → Nat → Hp → Prop, (∃ m, W 0 m (upd G D (o D))) ∧ ∀ i m H, W i m H →
  (It.stop i H ∧ Q (.ref D) H) ∨ (It.go i H ∧ ∃ Z : Hp → Prop, (∀ G, Z G → ∃ m', m' < m ∧ W (i + 1) m' G) ∧ ∀ x G, It.yld i H x G → g x (wipe σ vs) G fun τ G1 => wipe τ vs = wipe σ vs ∧ tt τ G1 fun b G2 => if b then tk τ G2 fun y G3 => tv τ G3 fun z G4 => r D y z G4 Z else Z G2)
section
variable {X : Cx} {kx vx tg iter : Expr} {ifs : List Expr} {scope : Scope} {own : List (Str × Nat)} {pos : Pos} {wi : TI} {g : TG} {tt : TT} {tk tv : TE} {o : Addr → HO} {r : RPut}
theorem dcG_core {pins : List (Addr × Obj)} {s : Shared} {σ : St} {H : Hp} {Q : VK} {posn : Pos} {use : Option (Value → Sem Unit)} {Qf : Value → Shared → Prop} (hc : X.calm = true) (hN : X.N.Nodup) (I : Inv X pins σ H s) (hi : PI X tg iter wi) (ok : BlkOk X.N X.env.scope scope own) (hn : PNew X o)
    (hr : ∀ (s : Shared) (H : Hp) (C : Addr) (cl : List (Str × Addr)) (fp : List Addr), PPut (Blk X scope s H C cl fp) r)
    (hg : ∀ (s : Shared) (H : Hp) (C : Addr) (cl : List (Str × Addr)) (fp : List Addr), PG (Blk X scope s H C cl fp) tg g) (ht : ∀ (s : Shared) (H : Hp) (C : Addr) (cl : List (Str × Addr)) (fp : List Addr), PTs (Blk X scope s H C cl fp) ifs tt)
    (hk : ∀ (s : Shared) (H : Hp) (C : Addr) (cl : List (Str × Addr)) (fp : List Addr), PE (Blk X scope s H C cl fp) kx tk) (hv : ∀ (s : Shared) (H : Hp) (C : Addr) (cl : List (Str × Addr)) (fp : List Addr), PE (Blk X scope s H C cl fp) vx tv) (hs : ∀ x, foldedSetIterable iter X.env x = pure x)
    (h : tDcG o r wi g tt tk tv (own.map (·.2)) σ H Q) (out : ∀ D C t m G, Inv X pins σ G t → Q (.ref D) G → t.heap.Ns C m → FpOk X pins G C → compPost (model X.prog X.w) X.A X.xe use Qf (.ref D) C (.ok .next) t) :
    wpAny (model X.prog X.w) X.A (comprehension (.DictComp kx vx [⟨tg, iter, ifs, 0⟩] scope pos) scope X.env posn newDict false (eval iter X.env) use) Qf X.xe s := by
  have fr : ∀ y ∈ scope.names, y.2 = .free → ∃ c, X.env.cells.lookup y.1 = some c := fun y hy e => (ok.free y hy e).elim (fun z => I.ok.has _ (.inl z)) fun z => I.ok.has _ (.inr z)
  refine wpAny_comprehension_free (use := use) rfl hs (closure_ok fr) ok.kind (fun y hy e => (ok.uniq y hy).trans (congrArg some e)) (thn (hi.run pins s σ H _ I h) fun xv sa ha => thn ha fun itv sb hb => ?_)
  obtain ⟨it, fp, tn, It, Hb, e0, Ib, T, stb, fpb, q⟩ := hb
  subst e0
  refine wpAny_newObj_type (newEnv_comp ?_)
  generalize eD : sb.heap.objs.size = D
  have nD : Hb D = none := Ib.hok.fresh (Nat.le_of_eq eD)
  obtain ⟨W, ⟨m0, w0⟩, turn⟩ := q D nD
  generalize ec : ({ sb with heap := sb.heap.push { cls := .type "dict", data := .dict #[] } } : Shared) = sc
  have hcH : sc.heap = sb.heap.push { cls := .type "dict", data := .dict #[] } := by rw [← ec]
  have Ic : Inv X pins σ (upd Hb D (o D)) sc := by
    rw [← ec]
    exact Ib.laid (t' := sb.toks) (fun b u e => Heap.get?_push_of_some _ e) (Nat.le_of_eq eD) (by rw [← eD]; exact hn _ _ Ib.big)
  have small : ∀ b ∈ fp, b < sb.heap.objs.size := fun b hb => let ⟨u, e, _⟩ := T.obj _ _ stb b hb; Heap.lt_size e
  have fpc : ∀ b ∈ fp, FpOk X pins (upd Hb D (o D)) b ∧ b < sc.heap.objs.size := fun b hb => ⟨⟨by rw [upd_ne (by rw [← eD]; exact Nat.ne_of_lt (small b hb))]; exact (fpb b hb).1, (fpb b hb).2⟩, by rw [hcH, Heap.size_push]; exact Nat.lt_succ_of_lt (small b hb)⟩
  have stc : tn 0 sc.heap := T.keep _ _ _ stb fun b _ u e => by rw [hcH]; exact Heap.get?_push_of_some _ e
  have Id := block_start Ic ok hN fpc
  generalize eH : upd Hb D (o D) = Hc at Ic Id w0 fpc
  have pg := hg sc Hc sc.heap.objs.size (cellsFrom (sc.heap.objs.size + 1) scope.names (cloFrom X.env.cells scope.names [])) fp
  have pt := ht sc Hc sc.heap.objs.size (cellsFrom (sc.heap.objs.size + 1) scope.names (cloFrom X.env.cells scope.names [])) fp
  have pk := hk sc Hc sc.heap.objs.size (cellsFrom (sc.heap.objs.size + 1) scope.names (cloFrom X.env.cells scope.names [])) fp
  have pv := hv sc Hc sc.heap.objs.size (cellsFrom (sc.heap.objs.size + 1) scope.names (cloFrom X.env.cells scope.names [])) fp
  have pr := hr sc Hc sc.heap.objs.size (cellsFrom (sc.heap.objs.size + 1) scope.names (cloFrom X.env.cells scope.names [])) fp
  have nfp : ∀ b ∈ fp, Hc b = none := fun b hb => (fpc b hb).1.1
  show codeAny _ _ (.compStart (.DictComp kx vx [⟨tg, iter, ifs, 0⟩] scope pos) 0 (.ref it) (.ref D) (compEnvC scope (cellsFrom (sc.heap.objs.size + 1) scope.names (cloFrom X.env.cells scope.names [])) sc.heap.objs.size X.env)) (compPost (model X.prog X.w) X.A X.xe use Qf (.ref D) sc.heap.objs.size) { sc with heap := pushCells (sc.heap.push { cls := .type "dict", data := .dict #[] }) scope.names }
  unfold Blk at pg pt pk pv pr
  generalize ee : compEnvC scope (cellsFrom (sc.heap.objs.size + 1) scope.names (cloFrom X.env.cells scope.names [])) sc.heap.objs.size X.env = ce at Id pg pt pk pv pr ⊢
  have cL : ce.locals = sc.heap.objs.size := by rw [← ee]; rfl
  generalize ed : ({ sc with heap := pushCells (sc.heap.push { cls := .type "dict", data := .dict #[] }) scope.names } : Shared) = sd at Id ⊢
  have std : tn 0 sd.heap := T.keep _ _ _ stc fun b _ u e => by rw [← ed]; exact pushCells_keeps _ _ _ _ (Heap.get?_push_of_some _ e)
  have stat : ∀ {τ : St} {G : Hp} {t : Shared}, Inv (X.blk sc Hc scope ce fp) [] τ G t → (∀ b ∈ fp, G b = none) → ∀ b ∈ fp, FpOk (X.blk sc Hc scope ce fp) [] G b := fun {τ G t} J z b hb =>
    ⟨z b hb, (J.ok.exf b hb).1, J.ok.exfs b hb, .inl hb, fun x c e => (J.ok.exf b hb).2 x c e, fun p hp => absurd (show p ∈ ([] : List (Addr × Obj)) ++ [] from hp) (by simp)⟩
  refine codeAny_compStart_dict ?lp (T.self X.A 0 _ _ _ std ?lp)
  refine compLoop_anyD (fun n t => ∃ i G, Inv (X.blk sc Hc scope ce fp) [] (wipe σ (own.map (·.2))) G t ∧ tn i t.heap ∧ (∀ b ∈ fp, G b = none) ∧ W i n G) ?_ m0 ⟨0, Hc, Id, std, nfp, w0⟩
  rintro n s5 ⟨i, H5, I5, st5, n5, w5⟩
  rcases turn i n H5 w5 with ⟨stop, fin⟩ | ⟨go, Z, hZ, step⟩
  · refine thnF (T.done (X.blk sc Hc scope ce fp) rfl rfl rfl hc i [] s5 _ H5 (fun _ _ => False) I5 (stat I5 n5) st5 stop) fun rv s6 ⟨erv, I6⟩ => ?_
    subst erv
    have I7 : Inv X pins σ H5 s6 := Ic.call' (ch := fp) I6.os I6.base I6.hok I6.bare fun b hb => let z := (fpc b hb).1.2; ⟨z.2.2.1, z.1, z.2.2.2.1, z.2.2.2.2⟩
    have nC : H5 sc.heap.objs.size = none := by rw [← cL]; exact I6.free
    obtain ⟨mm, hmm, _⟩ := I6.loc
    have hmm : s6.heap.Ns ce.locals mm := hmm
    rw [cL] at hmm
    exact out D sc.heap.objs.size s6 mm H5 I7 fin hmm (Ic.fpOk (Nat.le_refl _) nC)
  · refine thnF (T.item (X.blk sc Hc scope ce fp) rfl rfl rfl hc i [] s5 _ H5 (fun _ _ => False) I5 (stat I5 n5) st5 go) fun rv s6 ⟨u, erv, h6⟩ => ?_
    subst erv
    refine thnF h6 fun _ s7 ⟨x, H7, I7, r7, y7, st7, n7⟩ => ?_
    refine thnF (pg.run _ s7 _ H7 x u _ (I7.pinned (stat I7 n7) (T.obj _ _ st7)) r7 (step x H7 y7)) fun _ s8 ⟨τ, H8, I8, hw8, q8⟩ => thnF (pt.run _ s8 τ H8 _ I8 q8) fun b s9 ⟨H9, I9, q9⟩ => ?_
    have back : ∀ {t : Shared} {G : Hp}, Inv (X.blk sc Hc scope ce fp) ([] ++ pinsAt fp s7.heap) τ G t → Z G → ∃ m, m < n ∧ ∃ i G, Inv (X.blk sc Hc scope ce fp) [] (wipe σ (own.map (·.2))) G t ∧ tn i t.heap ∧ (∀ b ∈ fp, G b = none) ∧ W i m G := fun {t G} J zg => by
      obtain ⟨m', hm, w'⟩ := hZ G zg
      have pin : ∀ b ∈ fp, ∀ u, s7.heap.get? b = some u → t.heap.get? b = some u ∧ G b = none := fun b hb u e => let z := J.pin (b, u) (List.mem_append_right _ (List.mem_append_right _ (mem_pinsAt hb e))); ⟨z.1, z.2.1⟩
      refine ⟨m', hm, i + 1, G, (J.unpinned (pins := [])).weak (by rw [← hw8, wipe_length]) (fun j v e => (wipe_some (by rw [hw8]; exact e)).1), T.keep _ _ _ st7 fun b hb u e => (pin b hb u e).1, fun b hb => ?_, w'⟩
      obtain ⟨u, e, _⟩ := T.obj _ _ st7 b hb
      exact (pin b hb u e).2
    cases b with
    | false => exact back I9 q9
    | true => exact thnF (pk.run _ s9 τ H9 _ I9 q9) fun kv s10 ⟨yk, H10, I10, r10, q10⟩ => thnF (pv.run _ s10 τ H10 _ I10 q10) fun vv s11 ⟨yv, H11, I11, r11, q11⟩ => thnF (pr _ s11 τ H11 D yk yv kv vv Z I11 r10 r11 q11) fun _ s12 ⟨G, J, zg⟩ => back J zg
/-- as a value -/
theorem pe_dcG (hc : X.calm = true) (hN : X.N.Nodup) (hi : PI X tg iter wi) (ok : BlkOk X.N X.env.scope scope own) (hn : PNew X o)
    (hr : ∀ (s : Shared) (H : Hp) (C : Addr) (cl : List (Str × Addr)) (fp : List Addr), PPut (Blk X scope s H C cl fp) r)
    (hg : ∀ (s : Shared) (H : Hp) (C : Addr) (cl : List (Str × Addr)) (fp : List Addr), PG (Blk X scope s H C cl fp) tg g) (ht : ∀ (s : Shared) (H : Hp) (C : Addr) (cl : List (Str × Addr)) (fp : List Addr), PTs (Blk X scope s H C cl fp) ifs tt)
    (hk : ∀ (s : Shared) (H : Hp) (C : Addr) (cl : List (Str × Addr)) (fp : List Addr), PE (Blk X scope s H C cl fp) kx tk) (hv : ∀ (s : Shared) (H : Hp) (C : Addr) (cl : List (Str × Addr)) (fp : List Addr), PE (Blk X scope s H C cl fp) vx tv) (hs : ∀ x, foldedSetIterable iter X.env x = pure x) :
    PE X (.DictComp kx vx [⟨tg, iter, ifs, 0⟩] scope pos) (tDcG o r wi g tt tk tv (own.map (·.2))) := by
  refine ⟨fun pins s σ H Q I h => ?_⟩
  rw [arm_eval_DictComp]
  refine dcG_core hc hN I hi ok hn hr hg ht hk hv hs h fun D C t m G J q hm f => ⟨m, hm, fun h'' sbut => ?_⟩
  obtain ⟨f0, f1, f2, f3, f4, f5⟩ := f
  exact ⟨.ref D, G, J.turned (t' := t.toks) (fun b u hb e => (sbut.2 b hb).trans e) f0 f1 f3 f4 f5, rfl, q⟩
end
end Cp
namespace Cp
open PySem PySem.Spec L2
open PyProof.Rows hiding St
variable {K : PySem.W.Frag} {ε : Type}
def rPutN (P : Program) (w : World) (K : PySem.W.Frag) : RPut := fun D y z H Q => ∃ xs k a, y = .ref a ∧ IsN P w K H D xs ∧ KeyN K H k a ∧ xs.length < sizeLine ∧ ∀ o', Q (upd H D (dN P w D (stN xs k a z) o'))
theorem put_N {X : Cx} (hu : X.A.units + 64 < cLine) : PPut X (rPutN X.prog X.w X.K) := by
  intro pins s σ H D y z u v Q I ry rz ⟨xs, k, a, h1, ⟨⟨o, h3⟩, h4⟩, h5, hl, q⟩
  subst h1
  cases ry
  obtain ⟨hz, hd, ys, e, E⟩ := dn_full I h3 h4
  have rm : (nestedKind X.prog X.w).room X.A := by show X.A.units + 8 < cLine; omega
  exact wpAny_dictSet_heap rm (h5.is I) E (fun h' E' hs => let ⟨o', I'⟩ := dn_put I h3 hd e rz hl E' hs; ⟨_, I', q o'⟩) (hsz := by rw [← Paired.length e]; exact hz)
theorem new_N {X : Cx} : PNew X (fun D => dN X.prog X.w D [] oN) := fun H h hb => dn_empty h hb
section
variable {α β γ : Type} [DecidableEq α]
def dcM (mt : γ → R ε Bool) (fk : γ → R ε α) (fv : γ → R ε β) : List γ → List (α × β) → R ε (List (α × β))
  | [], d => .ok d
  | x :: l, d => (mt x).bind fun c => if c then (fk x).bind fun a => (fv x).bind fun b => dcM mt fk fv l (dput d a b) else dcM mt fk fv l d
def dcR (mt : γ → R ε Bool) (fk : γ → R ε α) (fv : γ → R ε β) (l : List γ) : R ε (List (α × β)) := if l.length ≤ sizeLine then (dcM mt fk fv l []).noX else .bad
theorem dput_len (d : List (α × β)) (a : α) (b : β) : (dput d a b).length ≤ d.length + 1 := by
  unfold dput
  split
  · rw [List.length_map]; exact Nat.le_succ _
  · rw [List.length_append]; exact Nat.le_refl _
theorem R.bind_inv {δ ζ : Type} {m : R ε δ} {f : δ → R ε ζ} {r : ζ} (h : m.bind f = .ok r) : ∃ a, m = .ok a ∧ f a = .ok r := by
  cases m with
  | ok a => exact ⟨a, rfl, h⟩
  | exn e => cases h
  | bad => cases h
end
section
variable {α β γ : Type} [DecidableEq α] [Inhabited γ] {X : Cx} {J : Jc X.K ε} {ρ : Ev X.K} {kx vx tg iter : Expr} {ifs : List Expr} {pos : Pos} {S0 : Ty X.K γ} {T : Ty X.K α} {k : Ky X.K T} {U : Ty X.K β} {ml : R ε (List γ)} {wi : TI} {g : TG} {tt : TT} {tk tv : TE} {scope : Scope} {own : List (Str × Nat)} {ρ' : γ → Ev X.K} {mt : γ → R ε Bool} {fk : γ → R ε α} {fv : γ → R ε β} {ix : List Nat}
theorem dc_ev (ar : AtRef T) (hd8 : k.d ≤ 8) (hi : EvalIc J wi ρ S0 ml) (hg : ∀ (b : B) (F : Hp) (σ : St) (H : Hp) (v : V) (a : γ) (Q : St → Hp → Prop), Sta b (wipeE ρ (own.map (·.2))) F σ H → S0.rel a F v → (∀ σ', σ'.length = σ.length → (∀ j, j ∉ ix → σ'[j]? = σ[j]?) → Sta b (ρ' a) F σ' H → Q σ' H) → g v σ H Q)
    (hix : ∀ j ∈ ix, j ∈ own.map (·.2)) (ht : ∀ a, EvalT J.no tt (ρ' a) (mt a)) (hk : ∀ a, Eval J.no tk (ρ' a) (rP T) (fk a)) (hv : ∀ a, Eval J.no tv (ρ' a) (rP U) (fv a)) :
    Eval J (tDcG (fun D => dN X.prog X.w D [] oN) (rPutN X.prog X.w X.K) wi g tt tk tv (own.map (·.2))) ρ (rF (cDic X.prog X.w k U)) (ml.bind fun l => dcR mt fk fv l) := fun b F σ H Q S q => by
  refine hi b F σ H _ S ?_
  cases ml with
  | exn e => exact q
  | bad => exact q
  | ok l =>
    intro F1 H1 It1 g1 S1 wk D hD
    have q : PostE J b ρ (rF (cDic X.prog X.w k U)) F σ H Q (dcR mt fk fv l) := q
    unfold dcR at q
    by_cases hz : l.length ≤ sizeLine
    case neg => rw [if_neg hz] at q; exact q.elim
    rw [if_pos hz] at q
    cases hr : dcM mt fk fv l [] with
    | exn e => rw [hr] at q; exact q.elim
    | bad => rw [hr] at q; exact q.elim
    | ok r =>
      rw [hr] at q
      have fD : F1 D = none := S1.fh.free hD
      have bD : b.H0 D = none := S1.h0.free hD
      have unD : ∀ (j : Nat) (s : Slt X.K), ρ[j]? = some (some s) → s.isOw = true → σ[j]? = some (some (.ref D)) → False := S1.fresh_un hD
      refine ⟨fun i m H2 => m = l.length - i ∧ i ≤ l.length ∧ ∃ (F2 : Hp) (xs : List En) (done : List (α × β)), Same F1 F2 ∧ Sta b ρ F2 σ H2 ∧ (∀ p, (∃ o, H1 p = some o) → F1 p = none → F2 p = none) ∧ Sm H1 H2 ∧ F2 D = none ∧ (∃ o, H2 D = some (dN X.prog X.w D xs o)) ∧ Paired (ER k U F2) xs done ∧ dcM mt fk fv (l.drop i) done = .ok r ∧ done.length ≤ i, ⟨l.length, by simp, Nat.zero_le _, F1, [], [], Same.refl _, S1.newH hD, fun _ _ z => z, .of (same_upd hD), fD, ⟨_, upd_same⟩, .nil, hr, Nat.le_refl _⟩, ?_⟩
      rintro i m H2 ⟨rfl, hil, F2, xs, done, sf, S2, nF, sh, f2D, ⟨ob, h2D⟩, rd, hrest, hacc⟩
      obtain ⟨wgo, wst⟩ := wk i F2 H2 sf sh S2.fh
      by_cases hlt : i < l.length
      · obtain ⟨go, yld⟩ := wgo hlt
        rw [List.drop_eq_getElem_cons hlt] at hrest
        unfold dcM at hrest
        obtain ⟨c, hc, hcc⟩ := R.bind_inv hrest
        refine .inr ⟨go, fun H3 => ∃ (F3 : Hp) (xs : List En) (done : List (α × β)), Same F1 F3 ∧ Sta b ρ F3 σ H3 ∧ (∀ p, (∃ o, H1 p = some o) → F1 p = none → F3 p = none) ∧ Sm H1 H3 ∧ F3 D = none ∧ (∃ o, H3 D = some (dN X.prog X.w D xs o)) ∧ Paired (ER k U F3) xs done ∧ dcM mt fk fv (l.drop (i + 1)) done = .ok r ∧ done.length ≤ i + 1, fun H3 h3 => ⟨l.length - (i + 1), by omega, rfl, hlt, h3⟩, fun x H' y => ?_⟩
        obtain ⟨sy, F3, g3, fh3, r3⟩ := yld x H' y
        have S3 := g3.sta S2 (S2.tb.ext sy) fh3
        have grow : ∀ {F4 F5 : Hp} {xs : List En} {d : List (α × β)}, Same F4 F5 → Paired (ER k U F4) xs d → Paired (ER k U F5) xs d := fun e h => Paired.mapP h fun x a q => ⟨q.1, T.mono e q.2.1, U.mono e q.2.2⟩
        refine hg b F3 _ H' x _ _ (S3.wipe _) r3 fun σ4 hl4 hj4 S4 => ⟨wipe_eq _ (hl4.trans (wipe_length _ _)) fun j hj => hj4 j fun z => hj (hix j z), ht _ b F3 σ4 H' _ S4 ?_⟩
        rw [hc]
        intro F5 H5 g5 S5
        have g25 := g3.trans g5
        have S25 := g25.sta S2 S5.tb S5.fh
        cases c with
        | false =>
          rw [if_neg Bool.false_ne_true] at hcc ⊢
          exact ⟨F5, xs, done, sf.trans g25.f, S25, fun p hp z => g25.n p (sh.dom hp) (nF p hp z), sh.trans g25.h, g25.n D ⟨_, h2D⟩ f2D, ⟨ob, g25.h.at_ h2D (fun ps z => nomatch z)⟩, grow g25.f rd, hcc, Nat.le_succ_of_le hacc⟩
        | true =>
          rw [if_pos rfl] at hcc ⊢
          obtain ⟨ka, hka, hcc⟩ := R.bind_inv hcc
          obtain ⟨va, hva, hcc⟩ := R.bind_inv hcc
          refine hk _ b F5 σ4 H5 _ S5 ?_
          rw [hka]
          intro F6 y H6 g6 S6 r6
          refine hv _ b F6 σ4 H6 _ S6 ?_
          rw [hva]
          intro F7 z H7 g7 S7 r7
          have g27 := (g25.trans g6).trans g7
          have S27 := g27.sta S2 S7.tb S7.fh
          have f7D := g27.n D ⟨_, h2D⟩ f2D
          have r6 : T.rel ka F7 y := T.mono g7.f r6
          have rd7 := grow g27.f rd
          obtain ⟨kq, h3, h4⟩ := key_at (k := k) ar hd8 S7.fh r6
          subst h3
          refine ⟨xs, k.key ka, kq, rfl, ⟨⟨ob, g27.h.at_ h2D (fun ps z => nomatch z)⟩, er_keys rd7 hd8 S7.fh⟩, h4, by rw [Paired.length rd]; omega, fun o' => ⟨F7, _, dput done ka va, sf.trans g27.f, S27.chg (o := dN X.prog X.w D xs ob) (g27.h.at_ h2D (fun ps z => nomatch z)) trivial f7D bD unD, fun p hp z => g27.n p (sh.dom hp) (nF p hp z), fun p o e => by rw [upd_ne (ne_of_none e hD)]; exact (sh.trans g27.h) _ _ e, f7D, ⟨o', upd_same⟩, er_put rd7 r6 r7, hcc, Nat.le_trans (dput_len _ _ _) (Nat.succ_le_succ hacc)⟩⟩
      · have e : i = l.length := by omega
        subst e
        rw [List.drop_length] at hrest
        cases hrest
        refine .inl ⟨wst (Nat.le_refl _), ?_⟩
        exact q F2 _ H2 ⟨g1.f.trans sf, g1.h.trans sh, fun p hp z => nF p (g1.h.dom hp) (g1.n p hp z)⟩ S2 ⟨D, _, rfl, g1.h.free hD, h2D, f2D, xs, _, rfl, rd⟩
theorem de_dcN (hc : X.calm = true) (hN : X.N.Nodup) (hi : DIc X J ρ tg iter wi S0 ml) (ok : BlkOk X.N X.env.scope scope own) (ar : AtRef T) (hu : X.A.units + 64 < cLine)
    (hg : ∀ (s : Shared) (H : Hp) (C : Addr) (cl : List (Str × Addr)) (fp : List Addr), DG (Blk X scope s H C cl fp) (wipeE ρ (own.map (·.2))) tg g S0 ρ' ix) (hix : ∀ j ∈ ix, j ∈ own.map (·.2))
    (ht : ∀ (s : Shared) (H : Hp) (C : Addr) (cl : List (Str × Addr)) (fp : List Addr) (a : γ), DTs (Blk X scope s H C cl fp) J.no (ρ' a) ifs tt (mt a))
    (hk : ∀ (s : Shared) (H : Hp) (C : Addr) (cl : List (Str × Addr)) (fp : List Addr) (a : γ), DE (Blk X scope s H C cl fp) J.no (ρ' a) kx tk (rP T) (fk a))
    (hv : ∀ (s : Shared) (H : Hp) (C : Addr) (cl : List (Str × Addr)) (fp : List Addr) (a : γ), DE (Blk X scope s H C cl fp) J.no (ρ' a) vx tv (rP U) (fv a)) (hd8 : k.d ≤ 8 := by exact lo rfl) :
    DE X J ρ (.DictComp kx vx [⟨tg, iter, ifs, 0⟩] scope pos) (tDcG (fun D => dN X.prog X.w D [] oN) (rPutN X.prog X.w X.K) wi g tt tk tv (own.map (·.2))) (rF (cDic X.prog X.w k U)) (ml.bind fun l => dcR mt fk fv l) :=
  ⟨pe_dcG hc hN hi.pi ok new_N (fun s H C cl fp => put_N hu) (fun s H C cl fp => (hg s H C cl fp).pg) (fun s H C cl fp => (ht s H C cl fp default).pts) (fun s H C cl fp => (hk s H C cl fp default).pe) (fun s H C cl fp => (hv s H C cl fp default).pe) hi.fs,
    dc_ev ar hd8 hi.ev (hg {} (fun _ => none) 0 [] []).ev hix (fun a => (ht {} (fun _ => none) 0 [] [] a).ev) (fun a => (hk {} (fun _ => none) 0 [] [] a).ev) fun a => (hv {} (fun _ => none) 0 [] [] a).ev⟩
end
end Cp
namespace Cp
open PySem PySem.Spec L2
open PyProof.Rows hiding St
end Cp
namespace Cp
open PySem PySem.Spec
section
variable {ε α β γ s θ : Type}
section
variable [DecidableEq α]
theorem dcM_pure {mt : γ → R ε Bool} {fk : γ → R ε α} {fv : γ → R ε β} (p : γ → Bool) (ka : γ → α) (vb : γ → β) : ∀ {l : List γ} {d : List (α × β)}, (∀ x ∈ l, mt x = .ok (p x)) → (∀ x ∈ l, p x = true → fk x = .ok (ka x)) → (∀ x ∈ l, p x = true → fv x = .ok (vb x)) →
    dcM mt fk fv l d = .ok ((l.filter p).foldl (fun d x => dput d (ka x) (vb x)) d)
  | [], d, _, _, _ => rfl
  | x :: l, d, h1, h2, h3 => by
    unfold dcM
    rw [h1 x List.mem_cons_self, R.bind_ok]
    have t1 := fun y hy => h1 y (List.mem_cons_of_mem x hy)
    have t2 := fun y hy => h2 y (List.mem_cons_of_mem x hy)
    have t3 := fun y hy => h3 y (List.mem_cons_of_mem x hy)
    cases e : p x with
    | true => rw [if_pos rfl, h2 x List.mem_cons_self e, R.bind_ok, h3 x List.mem_cons_self e, R.bind_ok, dcM_pure p ka vb t1 t2 t3, List.filter_cons_of_pos e]; rfl
    | false => rw [if_neg Bool.false_ne_true, dcM_pure p ka vb t1 t2 t3, List.filter_cons_of_neg (by rw [e]; exact Bool.false_ne_true)]
theorem dcR_ok {mt : γ → R ε Bool} {fk : γ → R ε α} {fv : γ → R ε β} (p : γ → Bool) (ka : γ → α) (vb : γ → β) {l : List γ} (hl : l.length ≤ 16777216) (h1 : ∀ x ∈ l, mt x = .ok (p x)) (h2 : ∀ x ∈ l, p x = true → fk x = .ok (ka x)) (h3 : ∀ x ∈ l, p x = true → fv x = .ok (vb x)) :
    dcR mt fk fv l = .ok ((l.filter p).foldl (fun d x => dput d (ka x) (vb x)) []) := by
  unfold dcR
  rw [if_pos (by rw [sizeLine_eq]; exact hl), dcM_pure p ka vb h1 h2 h3]
  rfl
end
end
end Cp
namespace Cp
open PySem PySem.Spec L2
open PyProof.Rows hiding St
variable {K : PySem.W.Frag} {ε : Type}
section
variable {α β γ : Type}
def lc2M (mt : α → R ε Bool) (ml1 : α → R ε (List β)) (mt1 : α → β → R ε Bool) (f : α → β → R ε γ) : List α → R ε (List γ)
  | [] => .ok []
  | x :: l => (mt x).bind fun c => if c then (ml1 x).bind fun l1 => (lcM (mt1 x) (f x) l1).bind fun r1 => (lc2M mt ml1 mt1 f l).bind fun r => .ok (r1 ++ r) else lc2M mt ml1 mt1 f l
def lc2R (mt : α → R ε Bool) (ml1 : α → R ε (List β)) (mt1 : α → β → R ε Bool) (f : α → β → R ε γ) (l : List α) : R ε (List γ) := match lc2M mt ml1 mt1 f l with
  | .ok r => if r.length ≤ sizeLine then .ok r else .bad
  | _ => .bad
end
theorem wipeE_get {ρ : Ev K} {s : Slt K} {j : Nat} : ∀ {vs : List Nat}, (wipeE ρ vs)[j]? = some (some s) → j ∉ vs ∧ ρ[j]? = some (some s)
  | [], e => ⟨List.not_mem_nil, e⟩
  | v :: vs, e => by
    unfold wipeE at e
    rcases getset e with ⟨_, q⟩ | ⟨n, q⟩
    · cases q
    · obtain ⟨h1, h2⟩ := wipeE_get q
      exact ⟨fun h => (List.mem_cons.mp h).elim n h1, h2⟩
/-- a display under way: what is done stands at D -/
structure Un (b : B) (ρ : Ev K) (σ : St) (F1 H1 : Hp) (D : Addr) {γ : Type} (U : Ty K γ) (F H : Hp) (done : List γ) : Prop where
  sf : Same F1 F
  S : Sta b ρ F σ H
  nF : ∀ p, (∃ o, H1 p = some o) → F1 p = none → F p = none
  sh : Sm H1 H
  fD : F D = none
  at_ : ∃ acc, H D = some (.lst acc) ∧ U.all done F acc
section
variable {b : B} {ρ : Ev K} {σ : St} {F1 H1 F H F' H' : Hp} {D : Addr} {γ : Type} {U : Ty K γ} {done : List γ}
theorem Un.grow (u : Un b ρ σ F1 H1 D U F H done) (g : Gr F H F' H') (tb : Tbs (tabs K) H') (fh : Same F' H') : Un b ρ σ F1 H1 D U F' H' done := by
  obtain ⟨acc, h1, h2⟩ := u.at_
  exact ⟨u.sf.trans g.f, g.sta u.S tb fh, fun p hp z => g.n p (u.sh.dom hp) (u.nF p hp z), u.sh.trans g.h, g.n D ⟨_, h1⟩ u.fD, acc, g.h.at_ h1 (fun ps z => nomatch z), Ty.all_mono g.f h2⟩
theorem Un.push (u : Un b ρ σ F1 H1 D U F H done) (hD : H1 D = none) (bD : b.H0 D = none) (un : ∀ (j : Nat) (s : Slt K), ρ[j]? = some (some s) → s.isOw = true → σ[j]? = some (some (.ref D)) → False) {acc : List V} {v : V} {y : γ} (ha : H D = some (.lst acc)) (r : U.rel y F v) : Un b ρ σ F1 H1 D U F (upd H D (.lst (acc ++ [v]))) (done ++ [y]) := by
  obtain ⟨acc', h1, h2⟩ := u.at_
  rw [ha] at h1; cases h1
  exact ⟨u.sf, u.S.chg (o := .lst acc) ha trivial u.fD bD un, u.nF, fun p o e => by rw [upd_ne (ne_of_none e hD)]; exact u.sh _ _ e, u.fD, _, upd_same, prd_app h2 (.cons r .nil)⟩
end
section
variable {α β γ : Type} [Inhabited α] [Inhabited β] {X : Cx} {J : Jc X.K ε} {ρ : Ev X.K} {elt tg iter tg1 iter1 : Expr} {ifs ifs1 : List Expr} {pos : Pos} {T : Ty X.K α} {T1 : Ty X.K β} {U : Ty X.K γ} {ml : R ε (List α)} {wi wi1 : TI} {g g1 : TG} {tt tt1 : TT} {te : TE} {scope : Scope} {own : List (Str × Nat)} {vs1 : List Nat}
  {ρ' : α → Ev X.K} {ρ2 : α → β → Ev X.K} {mt : α → R ε Bool} {ml1 : α → R ε (List β)} {mt1 : α → β → R ε Bool} {f : α → β → R ε γ} {ix ix1 : List Nat}
abbrev DgEv (ρ : Ev K) (g : TG) {α : Type} (T : Ty K α) (ρ' : α → Ev K) (ix : List Nat) : Prop := ∀ (b : B) (F : Hp) (σ : St) (H : Hp) (v : V) (a : α) (Q : St → Hp → Prop), Sta b ρ F σ H → T.rel a F v → (∀ σ', σ'.length = σ.length → (∀ j, j ∉ ix → σ'[j]? = σ[j]?) → Sta b (ρ' a) F σ' H → Q σ' H) → g v σ H Q
theorem lc2_ev (hi : EvalIc J wi ρ T ml) (hg : DgEv (wipeE ρ (own.map (·.2))) g T ρ' ix) (kp : ∀ (a : α) (j : Nat), j ∉ ix → (ρ' a)[j]? = (wipeE ρ (own.map (·.2)))[j]?) (pl : ∀ (a : α) (j : Nat) (s : Slt X.K), j ∈ ix → (ρ' a)[j]? = some (some s) → s.isOw = false)
    (hix : ∀ j ∈ ix, j ∈ own.map (·.2)) (hix1 : ∀ j ∈ ix1, j ∈ vs1) (ht : ∀ a, EvalT J.no tt (ρ' a) (mt a)) (hi1 : ∀ a, EvalI J.no wi1 (ρ' a) T1 (ml1 a)) (hg1 : ∀ a, DgEv (wipeE (ρ' a) vs1) g1 T1 (ρ2 a) ix1)
    (ht1 : ∀ a c, EvalT J.no tt1 (ρ2 a c) (mt1 a c)) (he : ∀ a c, Eval J.no te (ρ2 a c) (rP U) (f a c)) :
    Eval J (tLc2 wi g tt wi1 g1 tt1 te (own.map (·.2)) vs1) ρ (rF (cLst U)) (ml.bind fun l => lc2R mt ml1 mt1 f l) := fun b F σ H Q S q => by
  refine hi b F σ H _ S ?_
  cases ml with
  | exn e => exact q
  | bad => exact q
  | ok l =>
    intro F1 H1 It1 g0 S1 wk D hD
    have q : PostE J b ρ (rF (cLst U)) F σ H Q (lc2R mt ml1 mt1 f l) := q
    unfold lc2R at q
    cases hr : lc2M mt ml1 mt1 f l with
    | exn e => rw [hr] at q; exact q.elim
    | bad => rw [hr] at q; exact q.elim
    | ok r =>
      rw [hr] at q
      by_cases hz : r.length ≤ sizeLine
      case neg => simp only [if_neg hz] at q; exact q.elim
      simp only [if_pos hz] at q
      have fD : F1 D = none := S1.fh.free hD
      have bD : b.H0 D = none := S1.h0.free hD
      have unD : ∀ (j : Nat) (s : Slt X.K), ρ[j]? = some (some s) → s.isOw = true → σ[j]? = some (some (.ref D)) → False := S1.fresh_un hD
      refine ⟨fun i m H2 => m = l.length - i ∧ i ≤ l.length ∧ ∃ (F2 : Hp) (done rest : List γ), Un b ρ σ F1 H1 D U F2 H2 done ∧ lc2M mt ml1 mt1 f (l.drop i) = .ok rest ∧ r = done ++ rest, ⟨l.length, by simp, Nat.zero_le _, F1, [], r, ⟨Same.refl _, S1.newH hD, fun _ _ z => z, .of (same_upd hD), fD, [], upd_same, .nil⟩, hr, rfl⟩, ?_⟩
      rintro i m H2 ⟨rfl, hil, F2, done, rest, u2, hrest, hrr⟩
      obtain ⟨wgo, wst⟩ := wk i F2 H2 u2.sf u2.sh u2.S.fh
      by_cases hlt : i < l.length
      · obtain ⟨go, yld⟩ := wgo hlt
        rw [List.drop_eq_getElem_cons hlt] at hrest
        unfold lc2M at hrest
        obtain ⟨c, hc, hcc⟩ := R.bind_inv hrest
        refine .inr ⟨go, fun H3 => ∃ (F3 : Hp) (done rest : List γ), Un b ρ σ F1 H1 D U F3 H3 done ∧ lc2M mt ml1 mt1 f (l.drop (i + 1)) = .ok rest ∧ r = done ++ rest, fun H3 h3 => ⟨l.length - (i + 1), by omega, rfl, hlt, h3⟩, fun x H' y => ?_⟩
        obtain ⟨sy, F3, g3, fh3, r3⟩ := yld x H' y
        have u3 := u2.grow g3 (u2.S.tb.ext sy) fh3
        refine hg b F3 _ H' x l[i] _ (u3.S.wipe _) r3 fun σ4 hl4 hj4 S4 => ⟨wipe_eq _ (hl4.trans (wipe_length _ _)) fun j hj => hj4 j fun z => hj (hix j z), ht _ b F3 σ4 H' _ S4 ?_⟩
        have un4 : ∀ (j : Nat) (s : Slt X.K), (ρ' l[i])[j]? = some (some s) → s.isOw = true → σ4[j]? = some (some (.ref D)) → False := fun j s e1 o e2 => by
          by_cases hj : j ∈ ix
          · rw [pl _ j s hj e1] at o; cases o
          · rw [kp _ j hj] at e1
            obtain ⟨n1, e3⟩ := wipeE_get e1
            rw [hj4 j hj, wipe_out n1] at e2
            exact unD j s e3 o e2
        rw [hc]
        intro F5 H5 g5 S5
        have u5 := u3.grow g5 S5.tb S5.fh
        cases c with
        | false =>
          rw [if_neg Bool.false_ne_true] at hcc ⊢
          exact ⟨F5, done, rest, u5, hcc, hrr⟩
        | true =>
          rw [if_pos rfl] at hcc ⊢
          obtain ⟨l1, hl1, hcc⟩ := R.bind_inv hcc
          obtain ⟨r1, hr1, hcc⟩ := R.bind_inv hcc
          obtain ⟨r2, hr2, hcc⟩ := R.bind_inv hcc
          cases hcc
          refine hi1 _ b F5 σ4 H5 _ S5 ?_
          rw [hl1]
          intro F6 H6 It2 g6 S6 wk1
          have u6 := u5.grow g6 S6.tb S6.fh
          refine ⟨fun j k H7 => k = l1.length - j ∧ j ≤ l1.length ∧ ∃ (F7 : Hp) (d1 t1 : List γ), Un b ρ σ F1 H1 D U F7 H7 (done ++ d1) ∧ Sta b (ρ' l[i]) F7 σ4 H7 ∧ Same F6 F7 ∧ lcM (mt1 l[i]) (f l[i]) (l1.drop j) = .ok t1 ∧ r1 = d1 ++ t1, ⟨l1.length, by simp, Nat.zero_le _, F6, [], r1, by rw [List.append_nil]; exact u6, S6, Same.refl _, hr1, rfl⟩, ?_⟩
          rintro j k H7 ⟨rfl, hjl, F7, d1, t1, u7, S7, s67, ht1', hr11⟩
          obtain ⟨wgo1, wst1⟩ := wk1 j F7 H7 s67 S7.fh
          by_cases hjlt : j < l1.length
          · obtain ⟨go1, yld1⟩ := wgo1 hjlt
            rw [List.drop_eq_getElem_cons hjlt] at ht1'
            obtain ⟨c1, hc1, hcc1⟩ := lcM_ok ht1'
            refine .inr ⟨go1, fun H8 => ∃ (F8 : Hp) (d1 t1 : List γ), Un b ρ σ F1 H1 D U F8 H8 (done ++ d1) ∧ Sta b (ρ' l[i]) F8 σ4 H8 ∧ Same F6 F8 ∧ lcM (mt1 l[i]) (f l[i]) (l1.drop (j + 1)) = .ok t1 ∧ r1 = d1 ++ t1, fun H8 h8 => ⟨l1.length - (j + 1), by omega, rfl, hjlt, h8⟩, fun x1 H8 y1 => ?_⟩
            obtain ⟨sy1, F8, g8, fh8, r8⟩ := yld1 x1 H8 y1
            have u8 := u7.grow g8 (S7.tb.ext sy1) fh8
            have S8 := g8.sta S7 (S7.tb.ext sy1) fh8
            refine hg1 _ b F8 _ H8 x1 l1[j] _ (S8.wipe _) r8 fun σ9 hl9 hj9 S9 => ⟨wipe_eq _ (hl9.trans (wipe_length _ _)) fun j hj => hj9 j fun z => hj (hix1 j z), ht1 _ _ b F8 σ9 H8 _ S9 ?_⟩
            rw [hc1]
            intro F10 H10 g10 S10
            have u10 := u8.grow g10 S10.tb S10.fh
            have S10' := g10.sta S8 S10.tb S10.fh
            cases c1 with
            | false =>
              rw [if_neg Bool.false_ne_true] at hcc1 ⊢
              exact ⟨F10, d1, t1, u10, S10', (s67.trans g8.f).trans g10.f, hcc1, hr11⟩
            | true =>
              rw [if_pos rfl] at hcc1 ⊢
              obtain ⟨y, r', hy, hr', hyr⟩ := hcc1
              refine he _ _ b F10 σ9 H10 _ S10 ?_
              rw [hy]
              intro F11 v H11 g11 S11 r11
              have u11 := u10.grow g11 S11.tb S11.fh
              have S11' := g11.sta S10' S11.tb S11.fh
              obtain ⟨acc, ha, hall⟩ := u11.at_
              have hlen : acc.length < sizeLine := by
                have e1 := Paired.length hall
                have e2 := congrArg List.length hrr
                have e3 := congrArg List.length hr11
                have e4 := congrArg List.length hyr
                simp only [List.length_append, List.length_cons] at e1 e2 e3 e4
                omega
              refine ⟨acc, ha, hlen, F11, d1 ++ [y], r', ?_, S11'.chg (o := .lst acc) ha trivial u11.fD bD un4, ((s67.trans g8.f).trans g10.f).trans g11.f, hr', by rw [hr11, hyr, List.append_assoc]; rfl⟩
              rw [← List.append_assoc]
              exact u11.push hD bD unD ha r11
          · have e : j = l1.length := by omega
            subst e
            rw [List.drop_length] at ht1'
            cases ht1'
            rw [List.append_nil] at hr11
            subst hr11
            exact .inl ⟨wst1 (Nat.le_refl _), F7, done ++ r1, r2, u7, hr2, by rw [hrr, List.append_assoc]⟩
      · have e : i = l.length := by omega
        subst e
        rw [List.drop_length] at hrest
        cases hrest
        rw [List.append_nil] at hrr
        subst hrr
        obtain ⟨acc, ha, hall⟩ := u2.at_
        refine .inl ⟨wst (Nat.le_refl _), ?_⟩
        exact q F2 _ H2 ⟨g0.f.trans u2.sf, g0.h.trans u2.sh, fun p hp z => u2.nF p (g0.h.dom hp) (g0.n p hp z)⟩ u2.S ⟨D, _, rfl, g0.h.free hD, ha, u2.fD, acc, rfl, hall⟩
theorem de_lc2 (hc : X.calm = true) (hN : X.N.Nodup) (hi : DIc X J ρ tg iter wi T ml) (ok : BlkOk X.N X.env.scope scope own) (hv : ∀ i ∈ vs1, i ∈ own.map (·.2))
    (hg : ∀ (s : Shared) (H : Hp) (C : Addr) (cl : List (Str × Addr)) (fp : List Addr), DG (Blk X scope s H C cl fp) (wipeE ρ (own.map (·.2))) tg g T ρ' ix) (hix : ∀ j ∈ ix, j ∈ own.map (·.2))
    (ht : ∀ (s : Shared) (H : Hp) (C : Addr) (cl : List (Str × Addr)) (fp : List Addr) (a : α), DTs (Blk X scope s H C cl fp) J.no (ρ' a) ifs tt (mt a))
    (hi1 : ∀ (s : Shared) (H : Hp) (C : Addr) (cl : List (Str × Addr)) (fp : List Addr) (a : α), DI (Blk X scope s H C cl fp) J.no (ρ' a) tg1 iter1 wi1 T1 (ml1 a))
    (hg1 : ∀ (s : Shared) (H : Hp) (C : Addr) (cl : List (Str × Addr)) (fp : List Addr) (a : α), DG (Blk X scope s H C cl fp) (wipeE (ρ' a) vs1) tg1 g1 T1 (ρ2 a) ix1) (hix1 : ∀ j ∈ ix1, j ∈ vs1)
    (ht1 : ∀ (s : Shared) (H : Hp) (C : Addr) (cl : List (Str × Addr)) (fp : List Addr) (a : α) (c : β), DTs (Blk X scope s H C cl fp) J.no (ρ2 a c) ifs1 tt1 (mt1 a c))
    (he : ∀ (s : Shared) (H : Hp) (C : Addr) (cl : List (Str × Addr)) (fp : List Addr) (a : α) (c : β), DE (Blk X scope s H C cl fp) J.no (ρ2 a c) elt te (rP U) (f a c)) (hs1 : ∀ env x, foldedSetIterable iter1 env x = pure x := by intro _ _; rfl) :
    DE X J ρ (.ListComp elt [⟨tg, iter, ifs, 0⟩, ⟨tg1, iter1, ifs1, 0⟩] scope pos) (tLc2 wi g tt wi1 g1 tt1 te (own.map (·.2)) vs1) (rF (cLst U)) (ml.bind fun l => lc2R mt ml1 mt1 f l) :=
  ⟨pe_lc2 hc hN hi.pi ok hv (fun s H C cl fp => (hg s H C cl fp).pg) (fun s H C cl fp => (ht s H C cl fp default).pts) (fun s H C cl fp => (hi1 s H C cl fp default).pi) (fun s H C cl fp => (hg1 s H C cl fp default).pg) (fun s H C cl fp => (ht1 s H C cl fp default default).pts) (fun s H C cl fp => (he s H C cl fp default default).pe) hi.fs hs1,
    lc2_ev hi.ev (hg {} (fun _ => none) 0 [] []).ev (hg {} (fun _ => none) 0 [] []).kp (hg {} (fun _ => none) 0 [] []).pl hix hix1 (fun a => (ht {} (fun _ => none) 0 [] [] a).ev) (fun a => (hi1 {} (fun _ => none) 0 [] [] a).ev) (fun a => (hg1 {} (fun _ => none) 0 [] [] a).ev) (fun a c => (ht1 {} (fun _ => none) 0 [] [] a c).ev) fun a c => (he {} (fun _ => none) 0 [] [] a c).ev⟩
theorem dic {e : Expr} {wi wi' : TI} {ρ : Ev X.K} {m : R ε (List α)} (h : DI X J ρ tg e wi T m) (q : wi = wi') : DI X J ρ tg e wi' T m := q ▸ h
end
end Cp
namespace Cp
open PySem PySem.Spec L2 PySem.W
open PyProof.Rows hiding St
variable {K : PySem.W.Frag} {ε : Type}
def rSortedD (K : PySem.W.Frag) {β : Type} (py : β → PyData) : List V → Hp → VK → Prop := fun vs H Q => ∃ (Rl : V → β → Prop) (a : Addr) (xs : List V) (bs : List β), vs = [.ref a] ∧ SqL K H a xs ∧ Paired (fun x b => Rl x b ∧ Dp K H x (py b)) xs bs ∧ AllAlike (bs.map py) ∧ Sortable (bs.map py) ∧ (∀ b ∈ bs, (py b).depth ≤ 50) ∧
  ∀ ys p, Paired Rl ys (bs.mergeSort (dataLe false py)) → H p = none → Q (.ref p) (upd H p (.lst ys))
section
variable {X : Cx} {β : Type} {Rl : V → β → Prop} {py : β → PyData}
theorem each_of {pins : List (Addr × Obj)} {s : Shared} {σ : St} {H : Hp} (I : Inv X pins σ H s) : ∀ {xs : List V} {bs : List β} {us : List Value}, Paired (fun x b => Rl x b ∧ Dp X.K H x (py b)) xs bs → Vals xs us → EachIs (fun v b => ∃ x, RelV x v ∧ Rl x b) us bs ∧ EachIs (fun v b => ∃ as, Reads s.heap v (py b) as) us bs
  | _, _, _, .nil, .nil => ⟨.nil, .nil⟩
  | _, _, _, .cons r t, .cons q u => by
    obtain ⟨h1, h2⟩ := each_of I t u
    exact ⟨.cons ⟨_, q, r.1⟩ h1, .cons (Dp.reads I _ _ _ r.2 q) h2⟩
theorem back_of : ∀ {us : List Value} {bs : List β}, EachIs (fun v b => ∃ x, RelV x v ∧ Rl x b) us bs → ∃ ys, Vals ys us ∧ Paired Rl ys bs
  | _, _, .nil => ⟨[], .nil, .nil⟩
  | _, _, .cons ⟨x, h1, h2⟩ t => by
    obtain ⟨ys, g1, g2⟩ := back_of t
    exact ⟨x :: ys, .cons h1 g1, .cons h2 g2⟩
theorem cr_sortedD (hu : X.A.units + 64 < cLine) : CallR X (.builtin "sorted") (rSortedD X.K py) := by
  intro pins s σ H vs us Q I r ⟨Rl, a, xs, bs, e0, hs, hp, hal, hk, hd, q⟩
  subst e0
  obtain ⟨its, rv, hl, hz⟩ := I.list hs
  rw [Vals.ref1 r]
  obtain ⟨e1, e2⟩ := each_of I hp rv
  have hlen : bs.length ≤ sizeLine := by rw [← Paired.length hp]; exact hz
  refine sorted_data hl.isList e1 e2 hal hk hlen (fun b hb => by have := hd b hb; omega) fun out h1 h2 => ?_
  obtain ⟨ys, g1, g2⟩ := back_of h2
  obtain ⟨ep, he'⟩ := PyProof.Rows.sortedAll_at s.heap its out.toArray
  exact ⟨.ref _, upd H (s.heap.objs.size + 1) (.lst ys), I.laid (t' := s.toks) (fun _ _ => PyProof.Rows.sortedAll_old) (Nat.le_succ _) ⟨by rw [g1.length, h1]; exact hlen, out, ep, g1, he'⟩, rfl, q _ _ g2 (I.hok.fresh (Nat.le_succ _))⟩
end
/-- sorted as data -/
def sortD {α : Type} (py : α → PyData) (l : List α) : List α := l.mergeSort (dataLe false py)
section
variable {α : Type} {X : Cx} {J : Jc X.K ε} {ρ : Ev X.K} {e : Expr} {t : TE} {pos p : Pos} {μ : Md} {T : Ty X.K α} {ml : R ε (List α)}
theorem de_sortedD {P : Pd T} {py : α → PyData} (hpy : ∀ a, P.py a = py a) (hal : ∀ a b, alike (py a) (py b) = true) (hk : ∀ a, ∃ x r, py a = .tuple (x :: r)) (im : T.imm) (hu : X.A.units + 64 < cLine) (hg : Gl X "sorted") (hm : X.mg "sorted" = none) (ha : DE X J ρ e t (rV μ (yLst T)) ml) (hd : P.d ≤ 50 := by exact lo rfl)
    (he : starEach [e] X.env = (false, eval e X.env) :: starEach [] X.env := by rfl) : DE X J ρ (.Call (.Name "sorted" p) [e] [] pos) (tCB (rSortedD X.K py) (tCons t tNil)) (rF (cLst T)) (ml.bind fun l => .ok (sortD py l)) :=
  de_callB (cr_sortedD hu) hg hm (by decide +kernel) (da_one ha he) (fun b F σ H x v Q S ⟨w, e1, r⟩ q => by
    obtain ⟨p, xs, h1, h2, h3⟩ := r
    subst h1
    have h4 := all_back im S .b h3
    have hDp : ∀ {ys : List V} {bs : List α}, T.all bs F ys → Paired (fun x b => T.rel b F x ∧ Dp X.K H x (py b)) ys bs := fun h => Paired.mapP h fun x b r => ⟨r, by rw [← hpy]; exact Dp.mono S.fh _ _ (P.dp r).1⟩
    refine ⟨fun x b => T.rel b F x, p, xs, x, e1, .of (Gh.le S.fh _ _ h2), hDp h4, AllAlike.of hal, Sortable.tuples hk, fun b _ => by rw [← hpy]; exact Nat.le_trans (P.dep b) hd, fun ys p' g1 g2 => ?_⟩
    exact q _ _ _ (Gr.newH g2) (S.newH g2) ⟨p', _, rfl, g2, upd_same, S.freshF g2, ys, rfl, g1⟩) (he := he)
end
end Cp
namespace Cp
open PySem PySem.Spec L2
open PyProof.Rows hiding St
variable {K : PySem.W.Frag} {ε : Type}
def ItN (P : Program) (w : World) (d : Addr) (xs : List En) (o : Obj) : It :=
  ⟨fun i H => H d = some (dN P w d xs o) ∧ i < xs.length, fun i H v G => G = H ∧ ∃ e, xs[i]? = some e ∧ v = .ref e.2.1, fun i H => H d = some (dN P w d xs o) ∧ xs.length ≤ i⟩
section
variable {X : Cx} {pins : List (Addr × Obj)} {σ : St} {H : Hp} {s : Shared} {d : Addr} {xs : List En} {o : Obj}
theorem dn_raw (I : Inv X pins σ H s) (hp : H d = some (dN X.prog X.w d xs o)) : (d == sysModules) = false ∧ s.heap.get? d = some o ∧ o.ExactDict ∧ ∃ es ep, o.data = .dict es ep ∧ es.size = xs.length ∧ ∀ (i : Nat) (e : En), xs[i]? = some e → ∃ en, es[i]? = some en ∧ en.key = .ref e.2.1 ∧ RelV e.2.2 en.val := by
  obtain ⟨⟨g0, g1, g2, ys, g3, es, ep, g4, g5, g6, _⟩, _⟩ := (show ObjOk X.prog X.w H s.heap d (dN X.prog X.w d xs o) from I.hok d _ hp)
  refine ⟨g2, g0, g4, es, ep, g5, (size_of_entries g6).trans (Paired.length g3).symm, fun i e he => ?_⟩
  obtain ⟨y, hy, e1, e2, e3⟩ := paired_get g3 he
  refine ⟨entryOfKey (nestedKind X.prog X.w) y, by rw [entry_at g6 i, hy]; rfl, ?_, e3⟩
  show Value.ref y.2.1 = _
  rw [e2]
theorem turn_N {P : Program} {w : World} {tg : Expr} {es : Array DictEntry} {ep : Nat} (it : Addr) (hod : o.data = .dict es ep) : Turn P w K tg (ItN P w d xs o) [it] it (fun i h => h.IsKeyIter it d i xs.length ep) where
  mem := List.mem_singleton.mpr rfl
  obj := fun i h st b hb => by
    obtain ⟨oi, e, c, dd⟩ := st
    rw [List.mem_singleton.mp hb]
    exact ⟨oi, e, fun v z => by rw [dd] at z; cases z⟩
  keep := fun i h h' st k => st.at fun oi e => k it (by simp) oi e
  item := by
    intro X hP hw hK hc i pins s σ H E I hf st ⟨hd, hi⟩
    subst hP hw hK
    obtain ⟨f0, f1, f2, f3, f4, f5⟩ := hf it (by simp)
    obtain ⟨hs, hgd, hx, es', ep', hdt, hsz, ent⟩ := dn_raw I hd
    obtain ⟨rfl, rfl⟩ := dict_ep hod hdt
    obtain ⟨en, hen, hkey, _⟩ := ent i xs[i] (List.getElem?_eq_getElem hi)
    refine next_key_item st hgd hdt hsz hen fun h' st' sb => ?_
    obtain ⟨oi, e, c, dd⟩ := id st'
    exact ⟨en.key, rfl, go_of (s := { s with heap := h' }) e c dd (by decide) ⟨.ref xs[i].2.1, H, I.turned (t' := s.toks) (fun b ob hb e => (sb.2 b hb).trans e) f0 f1 f3 f4 f5, hkey, ⟨rfl, xs[i], List.getElem?_eq_getElem hi, rfl⟩, st', fun b hb => (hf b hb).1⟩⟩
  done := by
    intro X hP hw hK hc i pins s σ H E I hf st ⟨hd, hi⟩
    subst hP hw hK
    obtain ⟨f0, f1, f2, f3, f4, f5⟩ := hf it (by simp)
    obtain ⟨hs, hgd, hx, es', ep', hdt, hsz, ent⟩ := dn_raw I hd
    obtain ⟨rfl, rfl⟩ := dict_ep hod hdt
    exact next_key_end (I.ok.hd hc) st hgd hdt hsz hi fun h' eb => ⟨rfl, I.turned (t' := s.toks) (fun b ob hb e => eb b ob hb e) f0 f1 f3 f4 f5⟩
  self := fun A i s Q E st h => by
    refine wpAny_pyIter_slot st.typeIs F.slot_dict_keyiterator_iter (wpAny_call_entry F.slot_dict_keyiterator_iter st.typeIs F.entry_dict_keyiterator_iter ?_ (F.args_dict_keyiterator_iter_1 _))
    exact wpAny_pure ⟨_, rfl, "dict_keyiterator", _, st.typeIs, F.slot_dict_keyiterator_next.lookup, h⟩
def iN (P : Program) (w : World) (td : TE) : TI := fun σ H R => td σ H fun x G => ∃ d xs o, x = .ref d ∧ G d = some (dN P w d xs o) ∧ R (ItN P w d xs o) G
theorem pi_N {tg e : Expr} {td : TE} (he : PE X e td) : PI X tg e (iN X.prog X.w td) := by
  refine ⟨fun pins s σ H R I h => thn (he.run pins s σ H _ I h) fun u s1 ⟨x, G, J, rx, d, xs, o, ex, hd, q⟩ => ?_⟩
  subst ex
  cases rx
  obtain ⟨hs, hgd, hx, es, ep, hdt, hsz, ent⟩ := dn_raw J hd
  refine iter_keys hs hgd hx hdt (pi_one (tk := s1.toks) J _ (turn_N _ hdt) ⟨_, Heap.get?_push_size _ rfl, rfl, ?_⟩ q)
  rw [hsz] <;> rfl
end
section
variable {α β : Type} [DecidableEq α] {X : Cx} {J : Jc X.K ε} {ρ : Ev X.K} {e tg : Expr} {t : TE} {pos p : Pos} {μ : Md} {T : Ty X.K α} {k : Ky X.K T} {U : Ty X.K β} {md : R ε (List (α × β))}
def dkeys (l : List (α × β)) : List α := l.map (·.1)
theorem er_key {F : Hp} {xs : List En} {l : List (α × β)} (r : Paired (ER k U F) xs l) {i : Nat} (hi : i < (dkeys l).length) : ∃ x, xs[i]? = some x ∧ T.rel (dkeys l)[i] F (.ref x.2.1) := by
  unfold dkeys at hi ⊢
  rw [List.length_map] at hi
  have hl := Paired.length r
  have := paired_get r (i := i) (a := xs[i]'(by omega)) (List.getElem?_eq_getElem (by omega))
  obtain ⟨y, hy, q⟩ := this
  rw [List.getElem?_eq_getElem hi] at hy
  cases hy
  exact ⟨_, List.getElem?_eq_getElem (by omega), by rw [List.getElem_map]; exact q.2.1⟩
/-- a dict that is leant on: its keys -/
theorem di_dict (ha : DE X J ρ e t (rP (yDic X.prog X.w k U)) md) (fs : ∀ x, foldedSetIterable e X.env x = pure x := by intro _; rfl) : DI X J ρ tg e (iN X.prog X.w t) T (md.bind fun l => .ok (dkeys l)) :=
  ⟨pi_N ha.pe, fun b F σ H Q S q => ha.ev.thenI S q fun l F' v H' g S' r q' => by
    obtain ⟨p, o, h1, h2, xs, ob, h3, h4⟩ := r
    subst h3
    refine ⟨p, xs, ob, h1, S'.fh _ _ h2, PostI.here q' S' fun i F2 H2 f1 f2 => ?_⟩
    have hp := f2 _ _ (f1 _ _ h2)
    have hl : (dkeys l).length = xs.length := by unfold dkeys; rw [List.length_map, Paired.length h4]
    refine ⟨fun hi => ⟨⟨hp, by omega⟩, fun x G ⟨e1, en, e2, e3⟩ => ?_⟩, fun hi => ⟨hp, by omega⟩⟩
    subst e1 e3
    obtain ⟨y, e4, e5⟩ := er_key h4 hi
    rw [e2] at e4; cases e4
    exact ⟨Same.refl _, F2, Gr.refl _ _, f2, T.mono f1 e5⟩, fs⟩
end
end Cp
namespace Cp
open PySem PySem.Spec L2
open PyProof.Rows hiding St
variable {K : PySem.W.Frag} {ε : Type}
section
variable {α : Type} {X : Cx} {J : Jc X.K ε} {ρ : Ev X.K} {e e' tg : Expr} {t t' : TE} {pos p : Pos} {μ ν : Md} {T : Ty X.K α} {ml : R ε (List α)} {mi : R ε Int}
/-- a constant of the module -/
theorem de_gS {x z : Str} (hg : Gl X x) (hm : ∃ tk, X.mg x = some (.str z tk)) (hz : PySem.PyData.strOk z = true := by decide +kernel) (hd : (x == ("__debug__" : Str)) = false := by decide) : DE X J ρ (.Name x pos) (tC (.str z)) (rP yStr) (.ok z) :=
  de_c (T := yStr) (a := z) (let ⟨tk, h⟩ := hm; pe_glob hg h ⟨_, rfl⟩ hd) (fun _ => ⟨rfl, hz⟩)
end
end Cp
namespace Cp
open PySem PySem.Spec L2
open PyProof.Rows hiding St
variable {K : PySem.W.Frag} {ε : Type}
theorem imm_cDic {α β : Type} {P : Program} {w : World} {T : Ty K α} {k : Ky K T} {U : Ty K β} (i : T.imm) (j : U.imm) : (cDic P w k U).imm := fun h ⟨xs, ob, e, r⟩ => ⟨xs, ob, e, Paired.mapP r fun x a q => ⟨q.1, i h q.2.1, j h q.2.2⟩⟩
end Cp
namespace Cp
open PySem PySem.Spec L2
open PyProof.Rows hiding St
variable {K : PySem.W.Frag} {ε : Type}
section
variable {α τ : Type} {X : Cx} {J : Jc X.K ε} {ρ : Ev X.K} {e e' tg : Expr} {t t' : TE} {pos p : Pos} {μ ν : Md}
/-- statements that are not reached -/
theorem ds_bad {sts : List Stmt} {I : τ → Oc X.K} : DS X J ρ sts (fun _ _ _ => False) I .bad := ⟨⟨fun _ _ _ _ _ _ h => h.elim⟩, fun _ _ _ _ _ _ q => q.elim⟩
/-- a + b of texts -/
def rAddS (a b : Str) : R ε Str := if a.length + b.length ≤ sizeLine ∧ PySem.PyData.strOk (a ++ b) = true then .ok (a ++ b) else .bad
theorem de_addS {ma mb : R ε Str} (ha : DE X J ρ e t (rV μ yStr) ma) (hb : DE X J ρ e' t' (rV ν yStr) mb) :
    DE X J ρ (.BinOp e .Add e' pos) (tOp (fun x y H Q => ∃ i j, x = .str i ∧ y = .str j ∧ i.length + j.length ≤ sizeLine ∧ Q (.str (i ++ j)) H) t t') (rP yStr) (ma.bind fun a => mb.bind fun b => rAddS a b) :=
  ⟨pe_op op_add_str ha.pe hb.pe, ha.ev.op2 hb.ev fun b F σ H x y v w Q S r1 r2 q => by
    obtain ⟨r1, _⟩ := r1
    obtain ⟨r2, _⟩ := r2
    subst r1 r2
    unfold rAddS at q
    by_cases hz : x.length + y.length ≤ sizeLine ∧ PySem.PyData.strOk (x ++ y) = true
    · rw [if_pos hz] at q
      exact ⟨x, y, rfl, rfl, hz.1, PostE.here q S ⟨rfl, hz.2⟩⟩
    · rw [if_neg hz] at q; exact q.elim⟩
/-- the signs of a text -/
def signs (x : Str) : List Str := x.cps.toList.map fun c => ⟨#[c]⟩
def rSigns (x : Str) : R ε (List Str) := if (signs x).all PySem.PyData.strOk = true then .ok (signs x) else .bad
theorem di_str {ma : R ε Str} (ha : DE X J ρ e t (rP yStr) ma) (fs : ∀ x, foldedSetIterable e X.env x = pure x := by intro _; rfl) : DI X J ρ tg e (iStr t) yStr (ma.bind fun a => rSigns a) :=
  ⟨pi_str ha.pe, fun b F σ H Q S q => ha.ev.thenI S q fun a F' v H' g S' r q' => by
    obtain ⟨r, _⟩ := r
    subst r
    unfold rSigns at q'
    by_cases hz : (signs a).all PySem.PyData.strOk = true
    · rw [if_pos hz] at q'
      refine ⟨a, rfl, PostI.here q' S' fun i F H h1 h2 => ?_⟩
      have hl : (signs a).length = a.cps.size := by unfold signs; rw [List.length_map, Array.length_toList]
      refine ⟨fun hi => ⟨by show i < a.cps.size; omega, fun x H' ⟨e1, c, e2, e3⟩ => ?_⟩, fun hi => by show a.cps.size ≤ i; omega⟩
      subst e1 e3
      have hx : (signs a)[i]? = some ⟨#[c]⟩ := by unfold signs; rw [List.getElem?_map, Array.getElem?_toList, e2]; rfl
      have hx2 := List.getElem?_eq_getElem hi
      rw [hx] at hx2
      refine ⟨Same.refl _, F, Gr.refl _ _, h2, ?_⟩
      rw [← Option.some.inj hx2]
      exact ⟨rfl, List.all_eq_true.mp hz _ (List.mem_of_getElem? hx)⟩
    · rw [if_neg hz] at q'; exact q'.elim, fs⟩
end
end Cp
namespace Cp
open PySem PySem.Spec L2
open PyProof.Rows hiding St
end Cp
namespace Cp
open PySem PySem.Spec L2 PySem.W
open PyProof.Rows hiding St
end Cp
namespace Cp
open PySem PySem.Spec L2
end Cp
namespace Cp
open PySem PySem.W PySem.Calls PyProof.Rows
section
variable {prog : Program} {w : World} {A : Around} {E : Value → Shared → Prop} {s : Shared} {a kS : Addr} {b : Bool} {vs : List Value} {keys : Array Value} {e e1 : Nat} {P : PySem.Fin → Shared → Prop}
/-- an invariant that does not look at the two lists -/
def OffK (a kS : Addr) (G : Shared → Prop) : Prop := ∀ (s : Shared) (h' : Heap) (tk : Nat) (c : Addr), G s → (c = a ∨ c = kS) → (∀ b o, b ≠ c → s.heap.get? b = some o → h'.get? b = some o) → G { s with heap := h', toks := tk }
theorem kq_tail {G : Shared → Prop} {st : SortSt} {out : List Value} (oG : OffK a kS G) (g : G s) (nk : s.heap.get? kS = some (seqObj "list" keys e)) (na : s.heap.get? a = some (seqObj "list" #[] e1)) (hka : kS ≠ a)
    (hsz : keys.size ≤ sizeLine) (hz : out.length ≤ sizeLine) (hfl : failedOf st = none) (ho : (if b = true then ((arrOf st).map (·.2)).reverse else (arrOf st).map (·.2)) = out.toArray)
    (h : ∀ h' tk c, G { s with heap := h', toks := tk } → h'.get? a = some (seqObj "list" out.toArray c) → P (.done (.ret .none)) { s with heap := h', toks := tk }) :
    wpAny (model prog w) A (ksk_tail a b e1 (.ref kS) st) P E s := by
  have s1 := Heap.SameBut.update s.heap kS (Obj.mapSeq fun _ => (#[] : Array Value))
  have na1 : (s.heap.update kS (Obj.mapSeq fun _ => (#[] : Array Value))).get? a = some (seqObj "list" #[] e1) := (s1.2 a hka.symm).trans na
  have s2 := Heap.SameBut.update (s.heap.update kS (Obj.mapSeq fun _ => (#[] : Array Value))) a (Obj.mapSeq fun _ => out.toArray)
  obtain ⟨c2, hc2⟩ : ∃ c2, ((s.heap.update kS (Obj.mapSeq fun _ => (#[] : Array Value))).update a (Obj.mapSeq fun _ => out.toArray)).get? a = some (seqObj "list" out.toArray c2) := ⟨_, get?_update_seq na1 fun _ => out.toArray⟩
  have hz2 : out.toArray.size ≤ sizeLine + 1 := by rw [List.size_toArray]; omega
  have g1 : G { s with heap := s.heap.update kS (Obj.mapSeq fun _ => (#[] : Array Value)), toks := s.toks } := oG s _ s.toks kS g (.inr rfl) fun b o hb e => (s1.2 b hb).trans e
  have g2 := oG _ ((s.heap.update kS (Obj.mapSeq fun _ => (#[] : Array Value))).update a (Obj.mapSeq fun _ => out.toArray)) s.toks a g1 (.inl rfl) fun b o hb e => (s2.2 b hb).trans e
  unfold ksk_tail
  try dsimp only
  rw [ho]
  refine wpAny_bind (listUpdate_at nk rfl ?_ hsz (Nat.zero_le _)); refine wpAny_bind (wpAny_letGo ?_)
  refine wpAny_bind (seqEpoch_at na1 rfl ?_); refine wpAny_bind (listUpdate_at na1 rfl ?_ (Nat.zero_le _) hz2)
  rw [hfl]
  simp only [bne_self_eq_false, Bool.false_eq_true, if_false]
  exact wpAny_pure (h _ _ c2 g2 hc2)
theorem kq_end {G : Shared → Prop} {κ : PyProof.Rows.KeyKind} (oG : OffK a kS G) (g : G s) (nk : s.heap.get? kS = some (seqObj "list" keys e)) (na : s.heap.get? a = some (seqObj "list" #[] e1)) (hka : kS ≠ a)
    (S : SortsAt prog w A s κ keys.toList) (hsz : keys.size = vs.length) (hZ : vs.length ≤ sizeLine)
    (h : ∀ h' tk c, G { s with heap := h', toks := tk } → h'.get? a = some (seqObj "list" (sortVals κ b keys.toList vs).toArray c) → P (.done (.ret .none)) { s with heap := h', toks := tk }) :
    wpAny (model prog w) A (ksk_end a b vs.toArray e1 (.ref kS) keys) P E s := by
  obtain ⟨kd, h1, h2⟩ := S.kind
  have hkl : keys.toList.length = vs.length := by rw [Array.length_toList]; exact hsz
  have hK : PyProof.Rows.KeysOf κ (keys.zip vs.toArray) := keysOf_zip S.keys
  have hol : (sortVals κ b keys.toList vs).length = vs.length := sortVals_length b hkl
  have hss : ∀ st0 : Array Keyed, st0 = (if b = true then (keys.zip vs.toArray).reverse else keys.zip vs.toArray) → st0.Perm (keys.zip vs.toArray) ∧ st0.size = vs.length := fun st0 e0 => by
    have hp : st0.Perm (keys.zip vs.toArray) := by
      rw [e0]
      cases b with
      | false => exact Array.Perm.refl _
      | true => rw [if_pos rfl]; exact Array.perm_iff_toList_perm.mpr (by rw [Array.toList_reverse]; exact List.reverse_perm _)
    exact ⟨hp, by rw [hp.size_eq, Array.size_zip, hsz, List.size_toArray, Nat.min_self]⟩
  obtain ⟨st0, e0⟩ : ∃ st0, st0 = (if b = true then (keys.zip vs.toArray).reverse else keys.zip vs.toArray) := ⟨_, rfl⟩
  obtain ⟨hstart, hst⟩ := hss st0 e0
  have fin : ∀ st' : SortSt, (arrOf st').Perm st0 → SortedToK κ (arrOf st') st0.size → Stable κ (arrOf st') st0 → (if b = true then ((arrOf st').map (·.2)).reverse else (arrOf st').map (·.2)) = (sortVals κ b keys.toList vs).toArray := by
    intro st' hp hs ht
    subst e0
    have e' := congrArg List.toArray (sort_out (rev := b) (keys := keys) (items := vs.toArray) (xs := arrOf st') (κ := κ) hK hp hs ht)
    rw [Array.toArray_toList] at e'
    exact e'
  have step : ∀ t : Sem PySem.Fin, wpAny (model prog w) A t P E s → wpAny (model prog w) A (if b = true then (do let _ ← rule "list.sort.reverse"; t) else t) P E s := by
    intro t ht
    split
    · exact wpAny_bind (wpAny_rule ht)
    · exact ht
  unfold ksk_end
  try dsimp only
  refine step _ ?_
  rw [← e0]
  by_cases hl2 : vs.toArray.size < 2
  · rw [if_pos hl2, if_pos hl2]
    refine wpAny_bind (wpAny_pure ?_)
    rw [StateT.run_pure]
    refine wpAny_bind (wpAny_pure ?_)
    try dsimp only
    refine kq_tail (st := SortSt.mk' general' st0 #[] 7 none) oG g nk na hka (by rw [hsz]; exact hZ) (by rw [hol]; exact hZ) rfl (fin _ (Array.Perm.refl _) ?_ (Stable.refl _)) h
    intro i j hij hj
    rw [hst] at hj
    rw [List.size_toArray] at hl2
    have : i = j := by omega
    subst this
    exact KeyOrd.kle_refl _
  · rw [if_neg hl2, if_neg hl2]
    rw [List.size_toArray] at hl2
    refine wpAny_bind (h2 (by omega) _ ?_)
    refine wpAny_bind (wpAny_mono (H.wpS_sortRunsSt (κ := κ) (kd := kd) (a₀ := st0) (st := SortSt.mk' kd st0 #[] 7 none) (Q := fun _ st' => failedOf st' = none ∧ (if b = true then ((arrOf st').map (·.2)).reverse else (arrOf st').map (·.2)) = (sortVals κ b keys.toList vs).toArray)
      h1 (hK.perm hstart) ⟨Array.Perm.refl _, rfl, rfl⟩ rfl (Stable.refl _) (by rw [hst]; omega) fun st' a1 a2 a3 a4 => ⟨a2, fin st' a1 a3 a4⟩) ?_ fun _ _ e => e)
    rintro ⟨⟨⟩, st'⟩ s' ⟨rfl, hf, ho⟩
    try dsimp only at ho ⊢
    exact kq_tail oG g nk na hka (by rw [hsz]; exact hZ) (by rw [hol]; exact hZ) hf ho h
variable {kz : List PyData} {G : List Value → Shared → Prop}
/-- one call f(v) behind the keys ks -/
def TurnK (prog : Program) (w : World) (A : Around) (f : Value) (vs : List Value) (a kS : Addr) (G : List Value → Shared → Prop) : Prop := ∀ (v : Value) (ks : List Value) (s : Shared), vs[ks.length]? = some v → G ks s → (∃ o, s.heap.get? kS = some o ∧ ∀ v, o.data ≠ .cell v) → (∃ o, s.heap.get? a = some o ∧ ∀ v, o.data ≠ .cell v) →
  wpAny (model prog w) A (call f [v]) (fun r s' => G (ks ++ [r]) s' ∧ ∀ c o, (c = a ∨ c = kS) → s.heap.get? c = some o → s'.heap.get? c = some o) (fun _ _ => False) s
theorem kq_rest {f : Value} (oG : ∀ ks, OffK a kS (G ks)) (g : G [] s) (nk : s.heap.get? kS = some (seqObj "list" #[] 0)) (na : s.heap.get? a = some (seqObj "list" #[] e1)) (hka : kS ≠ a)
    (hlen : kz.length = vs.length) (hZ : vs.length ≤ sizeLine) (hal : AllAlike kz) (hsk : Sortable kz) (hu : ∀ d, d ∈ kz → A.units + d.depth < cLine) (turn : TurnK prog w A f vs a kS G)
    (rd : ∀ ks s', G ks s' → ks.length = vs.length → EachIs (fun v k => ∃ as, Reads s'.heap v k as) ks kz)
    (h : ∀ ks s' out c, G ks s' → ks.length = vs.length → s'.heap.get? a = some (seqObj "list" (List.toArray out) c) → KeyedOut b kz vs out → P (.done (.ret .none)) s') :
    wpAny (model prog w) A (ksk_rest a f b vs.toArray e1 (.ref kS)) P E s := by
  unfold ksk_rest
  refine wpAny_bind (wpAny_rule ?_)
  rw [List.forIn_toArray]
  refine wpAny_bind (ksk_fold (fun i s' => ∃ (kA : Array Value) (e : Nat), kA.size = i ∧ G kA.toList s' ∧ s'.heap.get? kS = some (seqObj "list" kA e) ∧ s'.heap.get? a = some (seqObj "list" #[] e1)) vs 0 s ⟨#[], 0, rfl, g, nk, na⟩ ?step ?done)
  case step =>
    rintro j x s' hx ⟨kA, e, hj, gk, nk', na'⟩
    have hjl : kA.toList.length = j := by rw [Array.length_toList]; omega
    have hjv : j < vs.length := (List.getElem?_eq_some_iff.mp hx).1
    refine wpAny_bind (wpAny_attempt (wpAny_mono (turn x kA.toList s' (by rw [hjl]; exact hx) gk ⟨_, nk', fun v z => nomatch z⟩ ⟨_, na', fun v z => nomatch z⟩) (fun v s'' he => ?_) fun _ _ hF => hF.elim))
    obtain ⟨g2, kp⟩ := he
    try dsimp only
    have nk2 := kp kS _ (.inr rfl) nk'
    have na2 := kp a _ (.inl rfl) na'
    have s1 := Heap.SameBut.update s''.heap kS (Obj.mapSeq (·.push v))
    obtain ⟨c2, hc2⟩ : ∃ c2, (s''.heap.update kS (Obj.mapSeq (·.push v))).get? kS = some (seqObj "list" (kA.push v) c2) := ⟨_, get?_update_seq nk2 (·.push v)⟩
    have hz : kA.size ≤ sizeLine := by omega
    refine wpAny_bind (listUpdate_at nk2 rfl ?_ hz (Nat.le_trans (Nat.le_of_eq (Array.size_push ..)) (Nat.succ_le_succ hz)))
    refine wpAny_pure ⟨rfl, kA.push v, c2, by rw [Array.size_push]; omega, ?_, hc2, (s1.2 a hka.symm).trans na2⟩
    have ea : (kA.push v).toList = kA.toList ++ [v] := by simp
    rw [ea]
    exact oG _ s'' _ s''.toks kS g2 (.inr rfl) fun b o hb e => (s1.2 b hb).trans e
  case done =>
    rintro s' ⟨kA, e, hj, gk, nk', na'⟩
    have hjl : kA.toList.length = vs.length := by rw [Array.length_toList]; omega
    have hk := rd _ _ gk hjl
    try dsimp only
    refine wpAny_bind (listItems_at nk' rfl ?_)
    exact kq_end (κ := dataKind s'.heap kz) (oG _) gk nk' na' hka (SortsAt.data (s := s') hk hal hsk hu) (by rw [← hjl, Array.length_toList]) hZ fun h3 tk3 c g3 n3 => h _ _ _ c g3 hjl n3 ⟨s'.heap, kA.toList, hal, rfl, hk⟩
theorem kq_tree {f : Value} {n : Nat} (ho : s.heap.get? a = some (seqObj "list" vs.toArray n)) (hkS : kS = s.heap.objs.size + 1) (oG : ∀ ks, OffK a kS (G ks)) (g : ∀ h' tk, (∀ b o, b ≠ a → s.heap.get? b = some o → h'.get? b = some o) → G [] { s with heap := h', toks := tk })
    (hlen : kz.length = vs.length) (hZ : vs.length ≤ sizeLine) (hal : AllAlike kz) (hsk : Sortable kz) (hu : ∀ d, d ∈ kz → A.units + d.depth < cLine) (turn : TurnK prog w A f vs a kS G)
    (rd : ∀ ks s', G ks s' → ks.length = vs.length → EachIs (fun v k => ∃ as, Reads s'.heap v k as) ks kz)
    (h : ∀ ks s' out c, G ks s' → ks.length = vs.length → s'.heap.get? a = some (seqObj "list" (List.toArray out) c) → KeyedOut b kz vs out → P (.done (.ret .none)) s') :
    wpAny (model prog w) A (ksk_tree a f b) P E s := by
  have ha : a < s.heap.objs.size := Heap.lt_size ho
  have s1 := Heap.SameBut.update s.heap a (Obj.mapSeq fun _ => (#[] : Array Value))
  obtain ⟨e1, ho1⟩ : ∃ e1, (s.heap.update a (Obj.mapSeq fun _ => (#[] : Array Value))).get? a = some (seqObj "list" #[] e1) := ⟨_, get?_update_seq ho fun _ => #[]⟩
  have hsz : ((s.heap.update a (Obj.mapSeq fun _ => (#[] : Array Value))).push (seqObj "tuple" vs.toArray 0)).objs.size = kS := by rw [size_push', Heap.size_update, hkS]
  unfold ksk_tree
  refine wpAny_bind (listItems_at ho rfl ?_); refine wpAny_bind (listUpdate_at ho rfl ?_ (by rw [List.size_toArray]; exact hZ) (Nat.zero_le _))
  refine wpAny_bind (seqEpoch_at ho1 rfl ?_); refine wpAny_bind (wpAny_newTuple ?_ (by show vs.length ≤ _; exact hZ))
  refine wpAny_bind (wpAny_newList ?_ (Nat.zero_le _)); refine wpAny_holding ?_
  show wpAny _ _ (ksk_rest a f b vs.toArray e1 (.ref ((s.heap.update a (Obj.mapSeq fun _ => (#[] : Array Value))).push (seqObj "tuple" vs.toArray 0)).objs.size)) _ _ { s with heap := ((s.heap.update a (Obj.mapSeq fun _ => (#[] : Array Value))).push (seqObj "tuple" vs.toArray 0)).push (seqObj "list" #[] 0) }
  rw [hsz]
  refine kq_rest oG (g _ s.toks fun b o hb e => Heap.get?_push_of_some _ (Heap.get?_push_of_some _ ((s1.2 b hb).trans e))) ?_ (Heap.get?_push_of_some _ (Heap.get?_push_of_some _ ho1)) (by rw [hkS]; exact Nat.ne_of_gt (Nat.lt_succ_of_lt ha)) hlen hZ hal hsk hu turn rd h
  rw [← hsz]
  exact Heap.get?_push_size _ rfl
/-- sorted(xs, key=f) -/
theorem sorted_kq {l : Addr} {f : Value} {kw : List (Str × Value)} {Q : Value → Shared → Prop} (hl : s.heap.IsList l vs.toArray) (ea : a = s.heap.objs.size + 1) (ek : kS = s.heap.objs.size + 3) (oG : ∀ ks, OffK a kS (G ks))
    (g : ∀ h' tk, (∀ b o, s.heap.get? b = some o → h'.get? b = some o) → G [] { s with heap := h', toks := tk }) (hlen : kz.length = vs.length) (hZ : vs.length ≤ sizeLine) (hal : AllAlike kz) (hsk : Sortable kz) (hu : ∀ d, d ∈ kz → A.units + 2 + d.depth < cLine)
    (ha1 : argsOk "sorted" ⟨[.ref l], kw⟩) (ha2 : ∀ x, argsOk "list.sort" ⟨[.ref x], kw⟩) (ht : ∀ x, Builtin.«list.sort» ⟨[.ref x], kw⟩ = ksk_tree x f b) (turn : TurnK prog w A.in1.in1 f vs a kS G)
    (rd : ∀ ks s', G ks s' → ks.length = vs.length → EachIs (fun v k => ∃ as, Reads s'.heap v k as) ks kz)
    (h : ∀ ks s' out c, G ks s' → ks.length = vs.length → s'.heap.get? a = some (listOf (List.toArray out) c) → KeyedOut b kz vs out → Q (.ref a) s') :
    wpAny (model prog w) A (call (.builtin "sorted") [.ref l] kw) Q E s := by
  subst ea
  have hsz : (copyHeap s.heap vs).objs.size = s.heap.objs.size + 2 := by
    unfold copyHeap
    rw [size_push', Heap.size_update, size_push']
  refine sorted_of_sort hl hZ ha1 ha2 fun E' => ?_
  rw [ht]
  exact kq_tree (s := { s with heap := copyHeap s.heap vs }) (copyHeap_at s.heap vs) (by show kS = (copyHeap s.heap vs).objs.size + 1; rw [hsz]; exact ek) oG (fun h' tk k => g h' tk fun b o e => k b o (Nat.ne_of_lt (Nat.lt_succ_of_lt (Heap.lt_size e))) (copyHeap_old e))
    hlen hZ hal hsk hu turn rd fun ks s' out c g' hl' n' k' => ⟨rfl, h ks s' out c g' hl' n' k'⟩
end
end Cp
namespace Cp
open PySem PySem.Spec L2
open PyProof.Rows hiding St
open PySem.W (EachIs KeyedOut AllAlike Sortable dataLe alike)
variable {K : PySem.W.Frag} {ε : Type}
section
variable {X : Cx} {pins : List (Addr × Obj)} {σ : L2.St} {H : Hp} {s : Shared}
theorem inv_tab {P c : Addr} {ps more : Array Value} {oc : Obj} {h' : Heap} {t' : Nat} (I : Inv X pins σ H s) (hP : H P = some (.tbl ps)) (k : ∀ b o, b ≠ P → s.heap.get? b = some o → h'.get? b = some o)
    (hm : h'.get? P = some { cls := .none, data := .fields (ps ++ more) }) (hc : s.heap.objs.size ≤ c) (ho : h'.get? c = some oc) : Inv X pins σ (upd (upd H P (.tbl (ps ++ more))) c (.frz oc (.own 0))) { s with heap := h', toks := t' } := by
  have nC : H c = none := I.hok.fresh hc
  have nPc : P ≠ c := ne_of_none hP nC
  have off : ∀ b, b ≠ P → b ≠ c → upd (upd H P (.tbl (ps ++ more))) c (.frz oc (.own 0)) b = H b := fun b h1 h2 => by rw [upd_ne h2, upd_ne h1]
  have onP : upd (upd H P (.tbl (ps ++ more))) c (.frz oc (.own 0)) P = some (.tbl (ps ++ more)) := by rw [upd_ne nPc, upd_same]
  have nP : ∀ {b u}, H b = some u → (∀ q, u ≠ .tbl q) → b ≠ P := fun {b u} e q z => by subst z; rw [hP] at e; exact q ps (Option.some.inj e).symm
  have nN : ∀ {b}, H b = none → b ≠ P := fun {b} e z => by subst z; rw [hP] at e; cases e
  have lt' : ∀ {b o}, s.heap.get? b = some o → b ≠ c := fun {b o} e z => by subst z; exact Nat.lt_irrefl _ (Nat.lt_of_lt_of_le (Heap.lt_size e) hc)
  have sm : ∀ {b u}, H b = some u → b ≠ c := fun {b u} e => ne_of_none e nC
  have kp : ∀ {b u}, H b = some u → (∀ q, u ≠ .tbl q) → upd (upd H P (.tbl (ps ++ more))) c (.frz oc (.own 0)) b = some u := fun {b u} e q => by rw [off b (nP e q) (sm e)]; exact e
  refine I.step (g' := s.gens) (d' := s.drawn) (ch := []) (fun b hb => nomatch hb) (fun b o _ _ _ e n => k b o (nN n) e) (fun b o _ _ _ e n => ⟨o.slots, k b o (nN n) e⟩) (fun b o _ e n => by rw [off b (nN n) (lt' e)]; exact n)
    (fun b o _ e => ?_) (fun b xs e => kp e fun q z => nomatch z) (fun b o u e => kp e fun q z => nomatch z) (fun b qs e => ?_) (fun m hn => ?_) (fun b u e => ?_) I.bare
  · by_cases hb : b = P
    · exact ⟨_, by rw [hb]; exact hm⟩
    · exact ⟨o, k b o hb e⟩
  · by_cases hb : b = P
    · rw [hb, hP] at e; cases e
      exact ⟨more, by rw [hb]; exact onP⟩
    · exact ⟨#[], by rw [off b hb (sm e), e]; simp⟩
  · obtain ⟨ob, es, ep, ho, r⟩ := hn
    exact ⟨ob, es, ep, k _ ob (nN I.free) ho, r⟩
  · by_cases hb : b = c
    · subst hb
      rw [upd_same] at e; cases e
      exact ⟨ho, oc, ho⟩
    · by_cases hb2 : b = P
      · subst hb2
        rw [onP] at e; cases e
        exact hm
      · rw [off b hb2 hb] at e
        refine (I.hok b u e).stay (fun d v hd q => k d v ?_ q) (fun d q => kp q fun q z => nomatch z) fun d xs q => kp q fun q z => nomatch z
        rcases hd with z | z
        · rw [z]; exact hb2
        · exact nP z fun q z => nomatch z
/-- the code object at c bears the name q -/
def CodT (H : Hp) (c : Addr) (q : Str) : Prop := ∃ (oc : Obj) (vs : Array Value) (t : Tok), H c = some (.frz oc (.own 0)) ∧ oc.data = .fields vs ∧ vs[1]? = some (.str q t)
theorem CodT.sm {H H' : Hp} {c : Addr} {q : Str} (e : Sm H H') (h : CodT H c q) : CodT H' c q := let ⟨oc, vs, t, h1, h2⟩ := h; ⟨oc, vs, t, e.at_ h1 (fun ps z => nomatch z), h2⟩
theorem CodT.rec {c : Addr} {q : Str} (I : Inv X pins σ H s) (h : CodT H c q) : s.heap.CodeRec (.ref c) q := by
  obtain ⟨oc, vs, t, h1, h2, h3⟩ := h
  obtain ⟨h4, _⟩ := I.hok c _ h1
  exact ⟨c, oc, vs, t, rfl, h4, h2, h3⟩
/-- the lambda is made -/
theorem lam_mk {T : List (Addr × Str)} {c P : Addr} {params : Arguments} {body : Expr} {scope : Scope} {pos : Pos} {E Q : Value → Shared → Prop} (I : Inv X pins σ H s) (TB : LamX.TabB X.base X.mg c P) (hcode : X.env.code = .ref c) (hm : (P, X.env.qual ++ "<lambda>") ∈ T)
    (hu : ∀ p ∈ T, p.1 = P → p.2 = X.env.qual ++ "<lambda>") (hT : Tbs T H) (hdef : defaultsOf params X.env = ([], [])) (hfree : ∀ y ∈ scope.names, y.2 = .free → ∃ c, X.env.cells.lookup y.1 = some c)
    (h : ∀ (f c' : Addr) (pm ctv : Value) (H1 : Hp) (s' : Shared), Inv X pins σ H1 s' → Sm H H1 → Tbs T H1 → (∀ F, Same F H → F P = none → Same F H1) → (∀ b, (∃ o, s.heap.get? b = some o) → H b = none → H1 b = none) →
      s'.heap.get? f = some (PySem.W.kla_obj "<lambda>" (X.env.qual ++ "<lambda>") params body scope (cloFrom X.env.cells scope.names []) pm c' ctv) → H1 f = none → f ∉ frs X.stack → CodT H1 c' (X.env.qual ++ "<lambda>") → Q (.ref f) s') :
    wpAny (model X.prog X.w) X.A (eval (.Lambda params body scope pos) X.env) Q E s := by
  obtain ⟨ps, hP, ht, ha⟩ := hT _ hm
  refine PySem.W.kla_eval hdef ?_
  have bP : s.heap.BuiltinsAt X.mg P := TB.bm.keeps I.bk
  have hP' : s.heap.get? P = some { cls := .none, data := .fields ps } := I.hok P _ hP
  have nofr : ∀ f, s.heap.objs.size ≤ f → f ∉ frs X.stack := fun f hf z => by
    rcases List.mem_cons.mp (I.stkSub _ z) with e | e
    · exact Nat.lt_irrefl _ (Nat.lt_of_lt_of_le (e ▸ I.lt) hf)
    · exact I.nofs hf e
  cases hc : codeAmong pos ps.toList with
  | none =>
    refine PySem.W.kla_makeFunction (mg := X.mg) (c := c) (P := P) (ps := ps) (closure_ok hfree) I.ok.glob (I.mod.glob.keeps I.bk) hcode (TB.code.keeps I.bk) hP' ht hc TB.gP bP fun c' ctv h' tk hx hge hlt hrec htb => ?_
    obtain ⟨c2, oc, vs, t, e2, hoc, hd, hv⟩ := hrec
    cases e2
    have hsz : s.heap.objs.size ≤ h'.objs.size := Nat.le_trans hge (Nat.le_of_lt hlt)
    have nC : H c' = none := I.hok.fresh hge
    have nPc : P ≠ c' := ne_of_none hP nC
    have I1 := inv_tab (t' := tk) (more := #[rawInt pos.line, rawInt pos.col, .ref c']) (oc := oc) (h' := h'.push (PySem.W.kla_obj "<lambda>" (X.env.qual ++ "<lambda>") params body scope (cloFrom X.env.cells scope.names []) ((X.mg "__name__").getD .none) c' ctv)) I hP
      (fun b o hb e => Heap.get?_push_of_some _ (hx b o hb e)) (Heap.get?_push_of_some _ htb) hge (Heap.get?_push_of_some _ hoc)
    have keep : ∀ {b o}, H b = some o → b ≠ P → upd (upd H P (.tbl (ps ++ #[rawInt pos.line, rawInt pos.col, .ref c']))) c' (.frz oc (.own 0)) b = some o := fun {b o} e n => by rw [upd_ne (ne_of_none e nC), upd_ne n]; exact e
    have eL : (ps ++ #[rawInt pos.line, rawInt pos.col, .ref c']).toList = ps.toList ++ [rawInt pos.line, rawInt pos.col, .ref c'] := by simp
    have notP : ∀ {b o}, H b = some o → (∀ q, o ≠ .tbl q) → b ≠ P := fun {b o} e q z => by subst z; rw [hP] at e; exact q ps (Option.some.inj e).symm
    refine h h'.objs.size c' ((X.mg "__name__").getD .none) ctv _ _ I1 (fun b o e => ?_) (fun p hp => ?_) (fun F sf n b o e => ?_) (fun b ⟨o, e⟩ n => ?_) (Heap.get?_push_size _ rfl) ?_ (nofr _ hsz) ⟨oc, vs, t, upd_same, hd, hv⟩
    · by_cases hb : b = P
      · subst hb
        rw [hP] at e; cases e
        exact .inr ⟨⟨ps, rfl⟩, _, by rw [upd_ne nPc, upd_same]⟩
      · exact .inl (keep e hb)
    · by_cases hb : p.1 = P
      · rw [hu p hp hb, hb]
        refine ⟨_, by rw [upd_ne nPc, upd_same], by rw [eL]; exact PySem.TriplesOk_snoc _ _ _ _ ht, fun p' cv hcv => ?_⟩
        rw [eL] at hcv
        rcases LamX.among_app _ ht hcv with z | z
        · obtain ⟨c0, o0, v0, t0, e1, e2, e3⟩ := ha p' cv z
          exact ⟨c0, o0, v0, t0, e1, keep e2 (notP e2 fun q z => nomatch z), e3⟩
        · exact ⟨c', oc, vs, t, z, upd_same, hd, hv⟩
      · obtain ⟨ps', a1, a2, a3⟩ := hT p hp
        refine ⟨ps', keep a1 hb, a2, fun p' cv hcv => ?_⟩
        obtain ⟨c0, o0, v0, t0, e1, e2, e3⟩ := a3 p' cv hcv
        exact ⟨c0, o0, v0, t0, e1, keep e2 (notP e2 fun q z => nomatch z), e3⟩
    · exact keep (sf _ _ e) fun z => by rw [z, n] at e; cases e
    · rw [upd_ne fun z => Nat.lt_irrefl _ (Nat.lt_of_lt_of_le (Heap.lt_size e) (by rw [z]; exact hge)), upd_ne fun z => by rw [z, hP] at n; cases n]
      exact n
    · rw [upd_ne (Nat.ne_of_gt hlt), upd_ne (Nat.ne_of_gt (Nat.lt_of_lt_of_le (Heap.lt_size hP') hsz))]
      exact I.hok.fresh hsz
  | some cv =>
    obtain ⟨c', oc, vs, t, e, hco, hd, hv⟩ := ha pos cv hc
    subst e
    obtain ⟨hoc, _⟩ := I.hok c' _ hco
    refine PySem.W.kla_makeFunctionHit (mg := X.mg) (c := c) (P := P) (ps := ps) (closure_ok hfree) I.ok.glob (I.mod.glob.keeps I.bk) hcode (TB.code.keeps I.bk) hP' ht hc bP fun ctv h' tk hx hsz => ?_
    exact h h'.objs.size c' ((X.mg "__name__").getD .none) ctv H _ (I.kept fun b o e => Heap.get?_push_of_some _ (hx b o e)) (Sm.refl H) hT (fun F sf _ => sf) (fun _ _ n => n) (Heap.get?_push_size _ rfl) (I.hok.fresh hsz) (nofr _ hsz) ⟨oc, vs, t, hco, hd, hv⟩
end
structure LamP (sc scope : Scope) (x : Str) : Prop where
  kind : scope.kind = .function
  co : scope.isCoroutine = false
  gen : scope.isGenerator = false
  par : scope.names.lookup x = some .local
  own : ∀ y ∈ scope.names, (y.2 = .local → y.1 = x) ∧ y.2 ≠ .cell
  free : ∀ y ∈ scope.names, y.2 = .free → sc.names.lookup y.1 = some .cell ∨ sc.names.lookup y.1 = some .free
def lamPB (sc scope : Scope) (x : Str) : Bool :=
  decide (scope.kind = .function) && !scope.isCoroutine && !scope.isGenerator && decide (scope.names.lookup x = some .local) && scope.names.all fun y => (!decide (y.2 = .local) || decide (y.1 = x)) && !decide (y.2 = .cell) && (!decide (y.2 = .free) || decide (sc.names.lookup y.1 = some .cell) || decide (sc.names.lookup y.1 = some .free))
theorem lamP_by {sc scope : Scope} {x : Str} (h : lamPB sc scope x = true) : LamP sc scope x := by
  unfold lamPB at h
  simp only [Bool.and_eq_true, Bool.or_eq_true, Bool.not_eq_true', decide_eq_true_eq, decide_eq_false_iff_not, List.all_eq_true] at h
  obtain ⟨⟨⟨⟨h1, h2⟩, h3⟩, h5⟩, h4⟩ := h
  refine ⟨h1, h2, h3, h5, fun y hy => ⟨fun e => ?_, (h4 y hy).1.2⟩, fun y hy e => ?_⟩
  · rcases (h4 y hy).1.1 with z | z
    · exact absurd e z
    · exact z
  · rcases (h4 y hy).2 with (z | z) | z
    · exact absurd e z
    · exact .inl z
    · exact .inr z
abbrev lxCx (X : Cx) (A : Around) (outer : List Env) (s : Shared) (H : Hp) (scope : Scope) (f c' : Addr) (x : Str) : Cx where
  prog := X.prog
  w := X.w
  K := X.K
  mg := X.mg
  base := X.base
  A := A.deeper (LamX.lamEnv X scope s.heap.objs.size f c')
  N := X.N ++ [x]
  s_0 := s
  H_0 := H
  env := LamX.lamEnv X scope s.heap.objs.size f c'
  outer := outer
  stack := LamX.lamEnv X scope s.heap.objs.size f c' :: outer
  ex := []
  fn := fun _ => false
  calm := true
  pn := []
  xe := fun _ _ => False
section
variable {X : Cx} {pins : List (Addr × Obj)} {σ : L2.St} {H : Hp} {s : Shared}
theorem LamP.has {scope : Scope} {x : Str} (L : LamP X.env.scope scope x) (ok : X.Ok) : ∀ y ∈ scope.names, y.2 = .free → ∃ c, X.env.cells.lookup y.1 = some c := fun y hy e => by
  rcases L.free y hy e with k | k
  · exact ok.has _ (.inl k)
  · exact ok.has _ (.inr k)
theorem lam_start {A : Around} {scope : Scope} {f c' : Addr} {x : Str} {vv : V} {v : Value} {h₁ : Heap} {tk : Nat} (I : Inv X pins σ H s) (L : LamP X.env.scope scope x) (hx : x ∉ X.N) (hA : A.frames = some X.stack) (hd : A.handled = none) (rv : RelV vv v)
    (hns : h₁.Ns s.heap.objs.size fun y => ([(x, v)] : List (Str × Value)).reverse.lookup y) (kp : ∀ b o, s.heap.get? b = some o → h₁.get? b = some o) : Inv (lxCx X A X.stack s H scope f c' x) [] (σ ++ [some vv]) H { s with heap := h₁, toks := tk } := by
  have e0 := I.env0
  have hfree := L.has I.ok
  have cm : ∀ {y c}, (cloFrom X.env.cells scope.names []).lookup y = some c → X.env.cells.lookup y = some c := fun {y c} e => by
    rcases cloFrom_mem (PySem.mem_of_lookup e) with hm | ⟨h1, h2⟩
    · cases hm
    · obtain ⟨c1, hc⟩ := hfree _ h1 rfl
      have hc : X.env.cells.lookup y = some c1 := hc
      have e2 : c = c1 := by rw [h2, hc] <;> rfl
      rw [e2]; exact hc
  have look : ∀ {y}, scope.names.lookup y = some .free → ∃ c, (cloFrom X.env.cells scope.names []).lookup y = some c := fun {y} hl => by
    exact mem_lookup (cloFrom_has (cells := X.env.cells) (acc := []) (show (y, NameKind.free) ∈ scope.names from PySem.mem_of_lookup hl))
  have cellK : ∀ {c : Addr} {v : Option Value}, s.heap.IsCell c v → h₁.IsCell c v := fun {c v} ⟨o, ho, hd⟩ => ⟨o, kp _ _ ho, hd⟩
  have noA : ∀ b : Addr, b ∉ (lxCx X A X.stack s H scope f c' x).ex := fun b z => absurd (show b ∈ ([] : List Addr) from z) (by simp)
  refine ⟨⟨e0.mod, L.kind, rfl, rfl, Nat.le_refl _, fun y z c e1 e2 => I.ok.inj y z c (cm e1) (cm e2), fun y hy => ?_, fun y c z _ => ?_, fun _ => hd, Around.frames_deeper hA, .inr ⟨rfl, rfl⟩, fun b z => absurd z (noA b), e0.bs, e0.bsz, fun b _ _ => noA b, fun b z => absurd z (noA b), e0.funs, e0.frf⟩,
    rfl, e0.bare, Un.kept kp, ⟨_, hns, fun i y u e1 e2 e3 => ?_⟩, fun y c e => ?_, e0.hok.fresh (Nat.le_refl _), fun y c e => I.freeC y c (cm e), fun q hq => absurd (show q ∈ ([] : List (Addr × Obj)) ++ [] from hq) (by simp), e0.hok.kept kp, ?_⟩
  · have hy : scope.names.lookup y = some .cell ∨ scope.names.lookup y = some .free := hy
    rcases hy with hy | hy
    · exact absurd rfl (L.own _ (PySem.mem_of_lookup hy)).2
    · exact look hy
  · have z : false = true := z
    cases z
  · have e3 : Vis scope y := e3
    have e1 : (X.N ++ [x])[i]? = some y := e1
    have hl := I.len
    rcases Nat.lt_trichotomy i X.N.length with hi | hi | hi
    · rw [List.getElem?_append_left hi] at e1
      rw [List.getElem?_append_left (by rw [hl]; exact hi)] at e2
      have ny : y ≠ x := fun z => hx (by rw [← z]; exact List.mem_of_getElem? e1)
      rcases e3 with k | k | k
      · exact absurd ((L.own _ (PySem.mem_of_lookup k)).1 rfl) ny
      · exact absurd rfl (L.own _ (PySem.mem_of_lookup k)).2
      · obtain ⟨m, hn, hlk⟩ := I.loc
        have hvis : Vis X.env.scope y := (L.free _ (PySem.mem_of_lookup k) rfl).elim (fun k => .inr (.inl k)) (fun k => .inr (.inr k))
        obtain ⟨w', r, q⟩ := hlk i y u e1 e2 hvis
        obtain ⟨c2, h2⟩ := look k
        refine ⟨w', r, .inr ⟨.inr k, c2, h2, ?_⟩⟩
        rcases q with ⟨k', _⟩ | ⟨_, c3, e', z⟩
        · have k' : X.env.scope.names.lookup y = some .local := k'
          rcases L.free _ (PySem.mem_of_lookup k) rfl with k2 | k2 <;> rw [show X.env.scope.names.lookup y = _ from k2] at k' <;> cases k'
        · rw [cm h2] at e'; cases e'
          exact cellK z
    · subst hi
      rw [List.getElem?_append_right (Nat.le_refl _), Nat.sub_self] at e1
      rw [← hl, List.getElem?_append_right (Nat.le_refl _), Nat.sub_self] at e2
      cases e1; cases e2
      exact ⟨v, rv, .inl ⟨L.par, by simp⟩⟩
    · rw [List.getElem?_eq_none (by rw [List.length_append]; exact hi)] at e1; cases e1
  · obtain ⟨w', z⟩ := I.cell y c (cm e)
    exact ⟨w', cellK z⟩
  · show (σ ++ [some vv]).length = (X.N ++ [x]).length
    rw [List.length_append, List.length_append, I.len]; rfl
/-- the lambda is called -/
theorem lam_call {A : Around} {k : Nat} {scope : Scope} {f c' : Addr} {x : Str} {params : Arguments} {body : Expr} {pm ctv : Value} {vv : V} {v : Value} {tb : TE} {Q : VK} (I : Inv X pins σ H s) (L : LamP X.env.scope scope x) (hx : x ∉ X.N) (hA : A.frames = some X.stack) (hr : Room (k + 1) A) (rv : RelV vv v)
    (hf : s.heap.get? f = some (PySem.W.kla_obj "<lambda>" (X.env.qual ++ "<lambda>") params body scope (cloFrom X.env.cells scope.names []) pm c' ctv)) (hcd : s.heap.CodeRec (.ref c') (X.env.qual ++ "<lambda>"))
    (hbind : bindArgs (PySem.W.kla_fn "<lambda>" (X.env.qual ++ "<lambda>") params body scope (cloFrom X.env.cells scope.names []) pm (.ref c') ctv) ⟨[v], []⟩ = pure [(x, v)])
    (hb : PE (lxCx X A X.stack s H scope f c' x) body tb) (ht : tb (σ ++ [some vv]) H Q) :
    codeAny (model X.prog X.w) A (.call (.ref f) ⟨[v], []⟩) (fun r s' => match r with | .ok (.ret u) => CE X.stack X.prog X.w H s Q u s' | _ => False) s := by
  refine PySem.W.kla_callFunE hr.depth hf rfl L.co L.gen rfl hcd ?_
  rw [hbind]
  refine wpAny_pure (wpAny_newFunctionEnv (fun y hy => (L.own y hy).2) (fun y hy => ?_) (fun h₁ hns hsb => ⟨I.nolimit.fresh _ hsb, ?_⟩) L.kind)
  · rw [List.mem_singleton.mp hy]; exact L.par
  show codeAny _ _ (.expr body (LamX.lamEnv X scope s.heap.objs.size f c')) _ _
  have kp : ∀ b o, s.heap.get? b = some o → h₁.get? b = some o := fun b o e => hsb.extBut b o (Nat.ne_of_lt (Heap.lt_size e)) (Heap.get?_push_of_some _ e)
  have J := lam_start (A := A) (f := f) (c' := c') (tk := s.toks + ([(x, v)] : List (Str × Value)).length) I L hx hA hr.hd rv hns kp
  refine PySem.W.kla_codeExpr (wpAny_mono (hb.run [] _ _ H Q J ht) (fun u s' hq => ?_) fun e s' hq => False.elim hq)
  obtain ⟨w', H', J', rv', q⟩ := hq
  exact ⟨w', H', J'.os, J'.bare, J'.base, J'.hok, rv', q⟩
end
end Cp
namespace Cp
open PySem PySem.Spec L2
open PyProof.Rows hiding St
open PySem.W (EachIs KeyedOut AllAlike Sortable dataLe alike)
variable {K : PySem.W.Frag} {ε : Type}
section
variable {α : Type} {b : B} {ρ : Ev K} {F : Hp} {σ : L2.St} {H : Hp}
theorem Sta.snoc {T : Ty K α} {a : α} {v : V} (S : Sta b ρ F σ H) (r : T.rel a F v) : Sta b (ρ ++ [pl T a]) F (σ ++ [some v]) H := by
  have hl := S.len
  have back : ∀ {i : Nat} {s : Slt K}, (ρ ++ [pl T a])[i]? = some (some s) → (i < ρ.length ∧ ρ[i]? = some (some s)) ∨ (i = ρ.length ∧ s = .pl T a) := fun {i s} e => by
    rcases Nat.lt_trichotomy i ρ.length with h | h | h
    · rw [List.getElem?_append_left h] at e; exact .inl ⟨h, e⟩
    · subst h
      rw [List.getElem?_append_right (Nat.le_refl _), Nat.sub_self] at e
      cases e; exact .inr ⟨rfl, rfl⟩
    · rw [List.getElem?_eq_none (by rw [List.length_append]; exact h)] at e; cases e
  refine ⟨S.h0, S.tb, S.nt, S.f0, S.fh, S.nw, by rw [List.length_append, List.length_append, hl]; rfl, fun i s e => ?_, fun i j s t v e1 e2 o1 o2 e3 e4 => ?_⟩
  · rcases back e with ⟨h, ee⟩ | ⟨h, ee⟩
    · obtain ⟨w, e1, e2⟩ := S.sl i s ee
      exact ⟨w, by rw [List.getElem?_append_left (by omega)]; exact e1, e2⟩
    · subst h; subst ee
      exact ⟨v, by rw [List.getElem?_append_right (by omega), hl, Nat.sub_self]; rfl, r⟩
  · rcases back e1 with ⟨h1, e1⟩ | ⟨_, e1⟩
    · rcases back e2 with ⟨h2, e2⟩ | ⟨_, e2⟩
      · rw [List.getElem?_append_left (by omega)] at e3 e4
        exact S.ds i j s t v e1 e2 o1 o2 e3 e4
      · subst e2; cases o2
    · subst e1; cases o1
theorem Sta.unsnoc {o : Option (Slt K)} {v : Option V} (S : Sta b (ρ ++ [o]) F (σ ++ [v]) H) : Sta b ρ F σ H := by
  have hl := S.len
  rw [List.length_append, List.length_append] at hl
  have hl : σ.length = ρ.length := Nat.add_right_cancel hl
  have up : ∀ {i : Nat} {s : Slt K}, ρ[i]? = some (some s) → i < ρ.length ∧ (ρ ++ [o])[i]? = some (some s) := fun {i s} e => by
    have h := (List.getElem?_eq_some_iff.mp e).1
    exact ⟨h, by rw [List.getElem?_append_left h]; exact e⟩
  refine ⟨S.h0, S.tb, S.nt, S.f0, S.fh, S.nw, hl, fun i s e => ?_, fun i j s t v e1 e2 o1 o2 e3 e4 => ?_⟩
  · obtain ⟨h, e'⟩ := up e
    obtain ⟨w, e1, e2⟩ := S.sl i s e'
    rw [List.getElem?_append_left (by omega)] at e1
    exact ⟨w, e1, e2⟩
  · obtain ⟨h1, e1⟩ := up e1
    obtain ⟨h2, e2⟩ := up e2
    exact S.ds i j s t v e1 e2 o1 o2 (by rw [List.getElem?_append_left (by omega)]; exact e3) (by rw [List.getElem?_append_left (by omega)]; exact e4)
end
def keysM {α κ : Type} (f : α → R ε κ) : List α → Option (List κ)
  | [] => some []
  | x :: l => match f x with
    | .ok k => (keysM f l).map (k :: ·)
    | _ => none
theorem keysM_len {α κ : Type} {f : α → R ε κ} : ∀ {l : List α} {ks : List κ}, keysM f l = some ks → ks.length = l.length
  | [], _, h => by cases h; rfl
  | x :: l, ks, h => by
    unfold keysM at h
    cases e : f x with
    | ok k =>
      rw [e] at h
      cases e2 : keysM f l with
      | none => rw [e2] at h; cases h
      | some r => rw [e2] at h; cases h; rw [List.length_cons, List.length_cons, keysM_len e2]
    | exn _ => rw [e] at h; cases h
    | bad => rw [e] at h; cases h
theorem keysM_get {α κ : Type} {f : α → R ε κ} : ∀ {l : List α} {ks : List κ} {i : Nat} {x : α}, keysM f l = some ks → l[i]? = some x → ∃ k, f x = .ok k ∧ ks[i]? = some k
  | [], _, i, x, _, h => by cases h
  | y :: l, ks, i, x, h, hx => by
    unfold keysM at h
    cases e : f y with
    | ok k =>
      rw [e] at h
      cases e2 : keysM f l with
      | none => rw [e2] at h; cases h
      | some r =>
        rw [e2] at h; cases h
        cases i with
        | zero => cases hx; exact ⟨k, e, rfl⟩
        | succ i => exact keysM_get (i := i) e2 hx
    | exn _ => rw [e] at h; cases h
    | bad => rw [e] at h; cases h
/-- sorted by keys -/
def sortK {α κ : Type} (rev : Bool) (py : κ → PyData) (l : List α) (ks : List κ) : List α := ((l.zip ks).mergeSort (dataLe rev fun p => py p.2)).map (·.1)
def rSortK {α κ : Type} (rev : Bool) (py : κ → PyData) (f : α → R ε κ) (l : List α) : R ε (List α) := match keysM f l with
  | some ks => .ok (sortK rev py l ks)
  | none => .bad
def Jc.lam (J : Jc K ε) (n : Nat) : Jc K ε := ⟨J.EX, fun _ _ _ _ => False, nones n⟩
section
variable {X : Cx} {pins : List (Addr × Obj)} {σ : L2.St} {H : Hp} {s : Shared}
/-- an object that stands already is told -/
theorem inv_adopt {a : Addr} {o : HO} (I : Inv X pins σ H s) (n : H a = none) (ha : X.s_0.heap.objs.size ≤ a) (nl : a ≠ X.env.locals) (nc : ∀ x c, X.env.cells.lookup x = some c → c ≠ a) (np : ∀ p ∈ X.pn ++ pins, p.1 ≠ a) (ok : ObjOk X.prog X.w (upd H a o) s.heap a o) : Inv X pins σ (upd H a o) s := by
  have at_ : ∀ {b u}, H b = some u → upd H a o b = some u := fun {b u} e => by rw [upd_ne (ne_of_none e n)]; exact e
  refine I.step (h' := s.heap) (t' := s.toks) (g' := s.gens) (d' := s.drawn) (ch := [a]) (fun b hb => ?_) (fun b u _ _ _ e _ => e) (fun b u _ _ _ e _ => ⟨u.slots, e⟩) (fun b u hb _ e => by rw [upd_ne fun z => hb (by rw [z]; exact List.mem_singleton.mpr rfl)]; exact e) (fun b u _ e => ⟨u, e⟩)
    (fun b xs e => at_ e) (fun b u v e => at_ e) (fun b ps e => ⟨#[], by rw [at_ e]; simp⟩) (fun m h => h) (fun b u e => ?_) I.bare
  · rw [List.mem_singleton.mp hb]
    exact ⟨.inr ha, nl, nc, np⟩
  · by_cases hb : b = a
    · subst hb
      rw [upd_same] at e; cases e
      exact ok
    · rw [upd_ne hb] at e
      exact (I.hok b u e).stay (fun _ _ _ q => q) (fun _ q => at_ q) fun _ _ q => at_ q
theorem each_reads {κ : Type} {T : Ty X.K κ} {P : Pd T} {py : κ → PyData} (hpy : ∀ a, P.py a = py a) {F : Hp} (fh : Same F H) (I : Inv X pins σ H s) : ∀ {us : List V} {vs : List Value} {ks : List κ}, Vals us vs → T.all ks F us → EachIs (fun v d => ∃ as, Reads s.heap v d as) vs (ks.map py)
  | _, _, _, .nil, .nil => .nil
  | _, _, _, .cons q u, .cons r t => .cons (Dp.reads I _ _ _ (by rw [← hpy]; exact Dp.mono fh _ _ (P.dp r).1) q) (each_reads hpy fh I u t)
theorem each_items {α κ : Type} {T : Ty X.K α} {F : Hp} : ∀ {us : List V} {vs : List Value} {l : List α} {ks : List κ}, Vals us vs → T.all l F us → ks.length = l.length → EachIs (fun v (p : α × κ) => ∃ x, RelV x v ∧ T.rel p.1 F x) vs (l.zip ks)
  | _, _, _, [], .nil, .nil, _ => .nil
  | _, _, _, _ :: _, .nil, .nil, h => by cases h
  | _, _, _, [], .cons q u, .cons r t, h => by cases h
  | _, _, _, k :: ks, .cons q u, .cons r t, h => .cons ⟨_, q, r⟩ (each_items u t (Nat.succ.inj h))
theorem items_back {α κ : Type} {T : Ty X.K α} {F : Hp} : ∀ {vs : List Value} {ps : List (α × κ)}, EachIs (fun v (p : α × κ) => ∃ x, RelV x v ∧ T.rel p.1 F x) vs ps → ∃ us, Vals us vs ∧ T.all (ps.map (·.1)) F us
  | _, _, .nil => ⟨[], .nil, .nil⟩
  | _, _, .cons ⟨x, h1, h2⟩ t => let ⟨us, g1, g2⟩ := items_back t; ⟨x :: us, .cons h1 g1, .cons h2 g2⟩
/-- the call sorted(l, key=f ..), f the lambda -/
theorem sortK_run {α κ : Type} {J : Jc X.K ε} {b : B} {ρ : Ev X.K} {F : Hp} {T : Ty X.K α} {TK : Ty X.K κ} {PK : Pd TK} {py : κ → PyData} {key : α → R ε κ} {l : List α} {ks : List κ} {xs : List V} {p f c' : Addr} {k : Nat} {scope : Scope} {x : Str} {params : Arguments} {body : Expr} {pm ctv : Value} {tb : TE} {rev : Bool} {kw : List (Str × Value)} {Q : VK}
    (hpy : ∀ a, PK.py a = py a) (hal : ∀ a b, alike (py a) (py b) = true) (hsk : ∀ ks : List κ, Sortable (ks.map py)) (hd : PK.d ≤ 50) (I : Inv X pins σ H s) (S : Sta b ρ F σ H) (hs : SqL X.K H p xs) (r : T.all l F xs) (hks : keysM key l = some ks)
    (L : LamP X.env.scope scope x) (hx : x ∉ X.N) (hc : X.calm = true) (hr : Room (k + 3) X.A) (hf : s.heap.get? f = some (PySem.W.kla_obj "<lambda>" (X.env.qual ++ "<lambda>") params body scope (cloFrom X.env.cells scope.names []) pm c' ctv)) (hfn : H f = none) (hfs : f ∉ frs X.stack) (hcd : CodT H c' (X.env.qual ++ "<lambda>"))
    (hbind : ∀ (q : Str) (cl : List (Str × Addr)) (pm cv ctv v : Value), bindArgs (PySem.W.kla_fn "<lambda>" q params body scope cl pm cv ctv) ⟨[v], []⟩ = pure [(x, v)])
    (hbody : ∀ (A : Around) (outer : List Env) (s : Shared) (H : Hp) (f c' : Addr), Room k (A.deeper (LamX.lamEnv X scope s.heap.objs.size f c')) → ∀ a : α, DE (lxCx X A outer s H scope f c' x) (J.lam (ρ.length + 1)) (ρ ++ [pl T a]) body tb (rP TK) (key a))
    (ha1 : ∀ l, argsOk "sorted" ⟨[.ref l], kw⟩) (ha2 : ∀ x, argsOk "list.sort" ⟨[.ref x], kw⟩) (ht : ∀ x, Builtin.«list.sort» ⟨[.ref x], kw⟩ = ksk_tree x (.ref f) rev)
    (q : ∀ F' a H', Gr F H F' H' → Sta b ρ F' σ H' → H a = none → (∃ ys, H' a = some (.lst ys) ∧ T.all (sortK rev py l ks) F' ys) → F' a = none → Q (.ref a) H') :
    wpAny (model X.prog X.w) X.A (call (.builtin "sorted") [.ref p] kw) (L2.EP X pins σ Q) X.xe s := by
  obtain ⟨its, rv, hl, hz⟩ := I.list hs
  have hzl : its.length ≤ sizeLine := by rw [← rv.length]; exact hz
  have lx : xs.length = l.length := Paired.length r
  have kl := keysM_len hks
  obtain ⟨a, ea⟩ : ∃ a, a = s.heap.objs.size + 1 := ⟨_, rfl⟩
  obtain ⟨kS, ek⟩ : ∃ kS, kS = s.heap.objs.size + 3 := ⟨_, rfl⟩
  have big : ∀ {c : Addr}, (c = a ∨ c = kS) → s.heap.objs.size ≤ c := fun {c} h => by
    rcases h with h | h
    · rw [h, ea]; exact Nat.le_succ _
    · rw [h, ek]; exact Nat.le_add_right _ 3
  have off : ∀ {c d : Addr} {o : Obj}, (c = a ∨ c = kS) → s.heap.get? d = some o → d ≠ c := fun {c d o} h e z => by
    subst z; exact Nat.lt_irrefl _ (Nat.lt_of_lt_of_le (Heap.lt_size e) (big h))
  have nL : ∀ {c : Addr}, (c = a ∨ c = kS) → c ≠ X.env.locals := fun h z => Nat.lt_irrefl _ (Nat.lt_of_lt_of_le (z ▸ I.lt) (big h))
  have n0 : ∀ {c : Addr}, (c = a ∨ c = kS) → X.s_0.heap.objs.size ≤ c := fun h => Nat.le_trans I.sz (big h)
  have nC : ∀ {c : Addr}, (c = a ∨ c = kS) → ∀ x d, X.env.cells.lookup x = some d → d ≠ c := fun h x d e => by
    obtain ⟨v, o, ho, _⟩ := I.cell x d e
    exact off h ho
  have nP : ∀ {c : Addr}, (c = a ∨ c = kS) → ∀ p ∈ X.pn ++ pins, p.1 ≠ c := fun h p hp => off h (I.pin p hp).1
  have nS : ∀ {c : Addr}, (c = a ∨ c = kS) → c ∉ frs X.stack := fun h z => by
    rcases List.mem_cons.mp (I.stkSub _ z) with e | e
    · exact nL h e
    · exact I.nofs (big h) e
  refine sorted_kq (s := s) (vs := its) (kz := ks.map py) (a := a) (kS := kS) (b := rev) (f := .ref f)
    (G := fun done s' => ∃ (H' F' : Hp) (us : List V), Inv X pins σ H' s' ∧ Gr F H F' H' ∧ Sta b ρ F' σ H' ∧ Vals us done ∧ TK.all (ks.take done.length) F' us ∧ H' a = none ∧ H' kS = none ∧ H' f = none ∧ s'.heap.get? f = some (PySem.W.kla_obj "<lambda>" (X.env.qual ++ "<lambda>") params body scope (cloFrom X.env.cells scope.names []) pm c' ctv))
    hl.isList ea ek (fun done s' h' tk c ⟨H', F', us, I', g', S', r1, r2, n1, n2, n3, hf'⟩ hc' kp => ?_) (fun h' tk kp => ?_) (by rw [List.length_map, kl, ← lx, rv.length]) hzl (AllAlike.of hal) (hsk ks) (fun d hd' => ?_) (ha1 _) ha2 ht (fun v done s' hv ⟨H', F', us, I', g', S', r1, r2, n1, n2, n3, hf'⟩ hk0 ha0 => ?_) (fun done s' ⟨H', F', us, I', g', S', r1, r2, n1, n2, n3, hf'⟩ hdl => ?_) (fun done s' out c ⟨H', F', us, I', g', S', r1, r2, n1, n2, n3, hf'⟩ hdl hout hko => ?_)
  · have nc : H' c = none := by rcases hc' with e | e <;> rw [e] <;> assumption
    exact ⟨H', F', us, I'.turned (it := c) kp nc (nL hc') (.inr (n0 hc')) (nC hc') (nP hc'), g', S', r1, r2, n1, n2, n3, kp _ _ (off hc' hf) hf'⟩
  · exact ⟨H, F, [], I.kept kp, Gr.refl _ _, S, .nil, by rw [List.length_nil, List.take_zero]; exact .nil, I.hok.fresh (big (.inl rfl)), I.hok.fresh (big (.inr rfl)), hfn, kp _ _ hf⟩
  · obtain ⟨k0, _, rfl⟩ := List.mem_map.mp hd'
    have h1 := PK.dep k0
    have h2 := hr.un
    rw [hpy] at h1
    omega
  · obtain ⟨vv, hvv, rvv⟩ : ∃ vv, xs[done.length]? = some vv ∧ RelV vv v := by
      obtain ⟨vv, hvv⟩ : ∃ vv, xs[done.length]? = some vv := ⟨_, List.getElem?_eq_getElem (by rw [rv.length]; exact (List.getElem?_eq_some_iff.mp hv).1)⟩
      obtain ⟨u, e1, e2⟩ := rv.get hvv
      rw [hv] at e1; cases e1
      exact ⟨vv, hvv, e2⟩
    obtain ⟨y, hy, ry⟩ : ∃ y, l[done.length]? = some y ∧ T.rel y F vv := by
      obtain ⟨y, hy⟩ : ∃ y, l[done.length]? = some y := ⟨_, List.getElem?_eq_getElem (by rw [← lx]; exact (List.getElem?_eq_some_iff.mp hvv).1)⟩
      obtain ⟨w, e1, e2⟩ := all_get r hy
      rw [hvv] at e1; cases e1
      exact ⟨y, hy, e2⟩
    obtain ⟨kk, hkk, hki⟩ := keysM_get hks hy
    have hA : X.A.in1.in1.frames = some X.stack := I.ok.frames
    have hr1 : Room (k + 1) X.A.in1.in1 := hr.in1.in1
    have rc := lam_call (A := X.A.in1.in1) (k := k) (f := f) (c' := c') (v := v) (tb := tb) (Q := fun w H'' => ∃ F'', Gr F' H' F'' H'' ∧ Sta b ρ F'' σ H'' ∧ TK.rel kk F'' w) I' L hx hA hr1 rvv hf' ((hcd.sm g'.h).rec I') (hbind _ _ _ _ _ _) (hbody X.A.in1.in1 X.stack s' H' f c' (hr1.deeper _) y).pe
      ((hbody X.A.in1.in1 X.stack s' H' f c' (hr1.deeper _) y).ev b F' _ H' _ (S'.snoc (T.mono g'.f ry)) (by
        rw [hkk]
        exact fun F'' w H'' g S'' r => ⟨F'', g, S''.unsnoc, r⟩))
    refine wpAny_call (codeAny_mono rc fun r s'' hq => ?_)
    cases r with
    | error e => exact hq.elim
    | ok fl =>
      cases fl with
      | next => exact hq.elim
      | brk => exact hq.elim
      | cont => exact hq.elim
      | ret u =>
        obtain ⟨w, H'', os, bare, un, hok, rw', F'', g2, S2, rk⟩ := hq
        have I2 : Inv X pins σ H'' s'' := I'.call' (ch := []) os un hok bare (fun b z => nomatch z)
        obtain ⟨oa, ha1, _⟩ := ha0
        obtain ⟨ok0, hk1, _⟩ := hk0
        have hlen : done.length < ks.length := (List.getElem?_eq_some_iff.mp hki).1
        refine ⟨⟨H'', F'', us ++ [w], I2, g'.trans g2, S2, r1.append (.cons rw' .nil), ?_, un.free a oa ha1 n1 (fun z => nomatch z), un.free kS ok0 hk1 n2 (fun z => nomatch z), un.free f _ hf' n3 (fun z => nomatch z), un.keep f _ hf' n3 hfs (fun z => nomatch z)⟩, fun c o hc' e => un.keep c o e (by rcases hc' with z | z <;> rw [z] <;> assumption) (nS hc') (fun z => nomatch z)⟩
        rw [List.length_append, List.length_singleton, List.take_add_one, hki]
        exact prd_app (Ty.all_mono g2.f r2) (.cons rk .nil)
  · have e : ks.take done.length = ks := List.take_of_length_le (by rw [hdl, kl, ← lx, rv.length]; exact Nat.le_refl _)
    rw [e] at r2
    exact each_reads hpy S'.fh I' r1 r2
  · have e1 : ks.map py = (l.zip ks).map fun p => py p.2 := by
      rw [show (fun p : α × κ => py p.2) = py ∘ Prod.snd from rfl, ← List.map_map, List.map_snd_zip (by omega)]
    rw [e1] at hko
    obtain ⟨ys, g1, g2⟩ := items_back (PySem.W.keyedOut_each (fun p : α × κ => py p.2) hko (each_items (ks := ks) rv r kl))
    have hlo : out.length = its.length := hko.length (by rw [List.length_map, List.length_zip, kl, Nat.min_self, ← lx, rv.length])
    refine ⟨.ref a, upd H' a (.lst ys), inv_adopt I' n1 (n0 (.inl rfl)) (nL (.inl rfl)) (nC (.inl rfl)) (nP (.inl rfl)) ⟨by rw [g1.length, hlo]; exact hzl, out, c, g1, hout⟩, rfl, ?_⟩
    exact q F' a _ (g'.trans (Gr.newH n1)) (S'.newH n1) (I.hok.fresh (big (.inl rfl))) ⟨ys, upd_same, Ty.all_mono g'.f g2⟩ (S'.freshF n1)
end
end Cp
namespace Cp
open PySem PySem.Spec L2
open PyProof.Rows hiding St
open PySem.W (EachIs KeyedOut AllAlike Sortable dataLe alike)
variable {K : PySem.W.Frag} {ε : Type}
/-- the code object's table is told -/
def LamAt (K : PySem.W.Frag) (mg : Str → Option Value) (base : Heap) (cv : Value) (q : Str) : Prop := ∃ c P, cv = .ref c ∧ LamX.TabB base mg c P ∧ (P, q) ∈ tabs K ∧ ∀ p ∈ tabs K, p.1 = P → p.2 = q
/-- an expression read as what its run needs -/
def tRun (X : Cx) (e : Expr) : TE := fun σ H Q => ∀ pins s, Inv X pins σ H s → wpAny (model X.prog X.w) X.A (eval e X.env) (L2.EP X pins σ Q) X.xe s
theorem pe_run {X : Cx} {e : Expr} : PE X e (tRun X e) := ⟨fun pins s σ H Q I h => h pins s I⟩
section
variable {α κ : Type} {X : Cx} {J : Jc X.K ε} {ρ : Ev X.K} {e eb : Expr} {te teb : TE} {μ : Md} {T : Ty X.K α} {TK : Ty X.K κ} {PK : Pd TK} {py : κ → PyData} {key : α → R ε κ} {ml : R ε (List α)} {k : Nat} {scope : Scope} {x : Str} {params : Arguments} {body : Expr} {tb : TE} {rev : Bool} {pos p lpos kp1 kp2 : Pos}
theorem de_sortedK1 (hpy : ∀ a, PK.py a = py a) (hal : ∀ a b, alike (py a) (py b) = true) (hsk : ∀ ks : List κ, Sortable (ks.map py)) (im : T.imm) (hg : Gl X "sorted") (hm : X.mg "sorted" = none) (hc : X.calm = true) (hr : Room (k + 3) X.A) (la : LamAt X.K X.mg X.base X.env.code (X.env.qual ++ "<lambda>"))
    (L : LamP X.env.scope scope x) (hx : x ∉ X.N) (ha : DE X J ρ e te (rV μ (yLst T)) ml)
    (hbody : ∀ (A : Around) (outer : List Env) (s : Shared) (H : Hp) (f c' : Addr), Room k (A.deeper (LamX.lamEnv X scope s.heap.objs.size f c')) → ∀ a : α, DE (lxCx X A outer s H scope f c' x) (J.lam (ρ.length + 1)) (ρ ++ [pl T a]) body tb (rP TK) (key a))
    (hbind : ∀ (q : Str) (cl : List (Str × Addr)) (pm cv ctv v : Value), bindArgs (PySem.W.kla_fn "<lambda>" q params body scope cl pm cv ctv) ⟨[v], []⟩ = pure [(x, v)]) (hd : PK.d ≤ 50 := by exact lo rfl) (hdef : defaultsOf params X.env = ([], []) := by rfl)
    (he : backTo pos (starEach [e] X.env) = (false, eval e X.env) :: backTo pos (starEach [] X.env) := by rfl) (hpl : (backTo pos (starEach [e] X.env)).any (·.1) = false := by rfl)
    (hall : (backToKw pos (keywordEach [⟨some "key", .Lambda params body scope lpos, kp1⟩] X.env)).all (·.1.isSome) = true := by rfl) (hnone : (backToKw pos (keywordEach [⟨some "key", .Lambda params body scope lpos, kp1⟩] X.env)).any (·.1.isNone) = false := by rfl)
    (hks : (backToKw pos (keywordEach [⟨some "key", .Lambda params body scope lpos, kp1⟩] X.env)).filterMap (·.1) = [Str.ofString "key"] := by rfl) (hs : starEach [e] X.env = (false, eval e X.env) :: starEach [] X.env := by rfl) :
    DE X J ρ (.Call (.Name "sorted" p) [e] [⟨some "key", .Lambda params body scope lpos, kp1⟩] pos) (tRun X (.Call (.Name "sorted" p) [e] [⟨some "key", .Lambda params body scope lpos, kp1⟩] pos)) (rF (cLst T)) (ml.bind fun l => rSortK false py key l) :=
  ⟨pe_run, fun b F σ H Q S q pins s I => by
    obtain ⟨c, P, hcode, TB, hmT, hu⟩ := la
    refine wpAny_Call_Name_kw (ld_blt I hg hm (by decide +kernel : bootBuiltins "sorted" = some (.builtin "sorted")) ?_)
    refine PyProof.Rows.callWith_kw (thn ((pa_cons ha.pe pa_nil hs).run pos pins s σ H (fun vs H1 => ∃ F1 l p0 xs, vs = [.ref p0] ∧ Gr F H F1 H1 ∧ Sta b ρ F1 σ H1 ∧ T.all l F1 xs ∧ H1 p0 = some (.lst xs) ∧ PostE J b ρ (rF (cLst T)) F1 σ H1 Q (rSortK false py key l)) I ?_) fun us s1 ⟨vs, H1, I1, r1, F1, l, p0, xs, e0, g1, S1, ra, hp0, q1⟩ => ?_) he hpl hall hnone
    · refine ha.ev b F σ H _ S ?_
      cases ml with
      | exn e => exact q
      | bad => exact q
      | ok l =>
        intro F1 v H1 g1 S1 r1
        obtain ⟨p0, xs, e0, h1, h2⟩ := r1
        refine ⟨F1, l, p0, xs, by rw [e0], g1, S1, all_back im S1 μ h2, Md.le S1 μ _ _ h1, PostE.later g1 (m := rSortK false py key l) q⟩
    · subst e0
      rw [Vals.ref1 r1, hks]
      show wpAny _ _ (evalAll ((do let v ← eval (.Lambda params body scope lpos) X.env; standAt pos; pure v) :: [])) _ _ s1
      refine wpAny_evalAll_cons (wpAny_bind (lam_mk I1 TB hcode hmT hu S1.tb hdef (L.has I1.ok) fun f c' pm ctv H2 s2 I2 sm tb2 sf _ hf hfn hfs hcd => ?_))
      refine wpAny_bind (wpAny_standAt (wpAny_pure (wpAny_evalAll_nil ?_)))
      have nP := S1.nt _ hmT
      have S2 : Sta b ρ F1 σ H2 := S1.grow sm tb2 (Same.refl _) (sf F1 S1.fh nP) (fun _ _ z => z)
      cases hks0 : keysM key l with
      | none => unfold rSortK at q1; rw [hks0] at q1; exact q1.elim
      | some ks =>
        unfold rSortK at q1
        rw [hks0] at q1
        exact sortK_run (rev := false) hpy hal hsk hd I2 S2 (.of (sm.at_ hp0 fun ps z => nomatch z)) ra hks0 L hx hc hr hf hfn hfs hcd hbind hbody (fun l => PyProof.Rows.ksk_s1 _ _) (fun x => PyProof.Rows.ksk_l1 _ _) (fun x => PyProof.Rows.ksk_t1 _ _)
          fun F' a H' g' S' n ⟨ys, h1, h2⟩ n2 => q1 F' _ H' ⟨g'.f, sm.trans g'.h, fun p hp z => g'.n p (sm.dom hp) z⟩ S' ⟨a, _, rfl, sm.free n, h1, n2, ys, rfl, h2⟩⟩
end
/-- THE RULE for a def, its code object told -/
theorem fn_okC {α β : Type} {P : Program} {w : World} {mg : Str → Option Value} {base : Heap} {CX : CXT} {x qual : Str} {params : Arguments} {body : List Stmt} {scope : Scope} {dvs : List V} {kws : List (Str × V)} {f : Addr} {fd : FuncData} {N ps : List Str} {k n : Nat}
    {U : Tys K α} {ρ0 : α → Ev K} {EX : Ex ε} {q : β → Rr} {g : α → R ε β} (F : FunD K x qual params body scope dvs kws f fd) (S : FnScope N ps scope) (En : Ent U N n ρ0) (hn : ps.length = n)
    (hb : ∀ (cdv : Value), cdv = fd.code → ∀ (A : Around) (outer : List Env) (s : Shared) (H : Hp) (E : XK), Room k (A.deeper (envOfC qual scope s.heap.objs.size f cdv)) → ∀ a : α,
      ∃ (t : TS) (I : β → Oc K), DS (cxOf CX P w K mg base N qual scope f cdv A outer s H E) ⟨EX, fun _ => E, nones N.length⟩ (ρ0 a) body t I (g a) ∧ ∀ c, I c = .rt (q c) ∨ ((∃ ρ', I c = .nx ρ') ∧ ∀ b F H, q c b F H .non)) :
    FnOk P w K mg base CX (k + 1) f fd ps (spD EX U q g) := by
  obtain ⟨oc, od, dV, kV, doc, pm, an, cdv, ct, osl, e0, lk, hcd, _, _⟩ := F.ex
  subst e0
  refine fn_of lk hcd S (fun vs H Q E ⟨F, a, _, _, _, r, _⟩ => by rw [En.len a F vs r, hn]) fun A outer s H vs Q E hr ⟨F, a, fh, tb, nt, r, h⟩ => ?_
  obtain ⟨t, I, D, hI⟩ := hb cdv rfl A outer s H E hr a
  refine ⟨t, D.ps, D.ev ⟨H, F⟩ F _ H _ (Sta.enter En fh tb nt r) ?_⟩
  cases e : g a with
  | ok c =>
    rw [e] at h
    show (I c).Post _ _ _
    rcases hI c with z | ⟨⟨ρ', z⟩, zn⟩
    · rw [z]
      exact fun F' v H' h1 h2 h3 h4 h5 r => h F' v H' h1 h2 h3 h4 h5 r
    · rw [z]
      exact fun F' σ' H' _ S' => h F' .non H' S'.f0 S'.h0 S'.tb S'.fh S'.nw (zn _ _ _)
  | exn e' =>
    rw [e] at h
    exact fun F' σ' cls od H' S' r n => h F' cls od H' S'.f0 S'.h0 S'.tb S'.fh S'.nw r n
  | bad => rw [e] at h; exact h.elim
def noT (H : Hp) : Hp := fun a => match H a with
  | some (.tbl _) => none
  | o => o
theorem noT_same {H : Hp} : Same (noT H) H := fun a o e => by
  unfold noT at e
  split at e
  · cases e
  · exact e
theorem noT_of {H : Hp} {a : Addr} {o : HO} (e : H a = some o) (n : ∀ ps, o ≠ .tbl ps) : noT H a = some o := by
  unfold noT
  split
  · rename_i ps h
    rw [e] at h
    exact (n ps (Option.some.inj h)).elim
  · exact e
theorem noT_sql {H : Hp} {a : Addr} {xs : List V} (h : SqL K H a xs) : SqL K (noT H) a xs := by
  rcases h with (h | ⟨o, h⟩) | h
  · exact .inl (.inl (noT_of h fun ps z => nomatch z))
  · exact .inl (.inr ⟨o, noT_of h fun ps z => nomatch z⟩)
  · exact .inr h
/-- the told defs' tables are all there are -/
def exTab (tf : List (He.Defn × Str)) (K : PySem.W.Frag) : Bool := decide (tabs K = tf.map fun p => ((He.cT K p.1).2, p.2))
theorem tabs_start {tf : List (He.Defn × Str)} (h : exTab tf K = true) {H : Hp} (hT : ∀ p ∈ tf.map fun p => He.cT K p.1, H p.2 = some (.tbl #[])) : Tbs (tabs K) H ∧ ∀ p ∈ tabs K, noT H p.1 = none := by
  have e : tabs K = tf.map fun p => ((He.cT K p.1).2, p.2) := of_decide_eq_true h
  have key : ∀ p ∈ tabs K, H p.1 = some (.tbl #[]) := fun p hp => by
    rw [e] at hp
    obtain ⟨q, hq, rfl⟩ := List.mem_map.mp hp
    exact hT _ (List.mem_map.mpr ⟨q, hq, rfl⟩)
  refine ⟨fun p hp => ⟨#[], key p hp, True.intro, fun pos cv hc => ?_⟩, fun p hp => ?_⟩
  · have z : codeAmong pos [] = some cv := hc
    simp [codeAmong] at z
  · unfold noT
    rw [key p hp]
theorem lamAt_of {mg : Str → Option Value} {base : Heap} {d : He.DefD} {fd : FuncData} {tf : List (He.Defn × Str)} {q : Str} (h : exTab tf K = true) (F : FunD K d.name d.qual d.params d.body d.scope (d.dvs K) (d.kws K) (He.fAd K d.at_) fd) (hm : tf = [(d.at_, q)])
    (TB : ∀ p ∈ tf.map fun p => He.cT K p.1, LamX.TabB base mg p.1 p.2) : LamAt K mg base fd.code q := by
  subst hm
  have e : tabs K = [((He.cT K d.at_).2, q)] := of_decide_eq_true h
  obtain ⟨oc, od, dV, kV, doc, pm, an, cdv, ct, osl, e0, lk, hcd, _, _⟩ := F.ex
  obtain ⟨c, hc⟩ := He.codeIn_ref hcd
  have hc2 : fd.code = .ref c := by rw [e0]; exact hc
  have e1 := He.codeOf_eq lk hc2
  have tb := TB _ (List.mem_map.mpr ⟨_, List.mem_singleton.mpr rfl, rfl⟩)
  refine ⟨c, (He.cT K d.at_).2, hc2, ?_, by rw [e]; exact List.mem_singleton.mpr rfl, fun p hp _ => by rw [e] at hp; rw [List.mem_singleton.mp hp]⟩
  rw [← e1]
  exact tb
end Cp
namespace Cp
open PySem PySem.Spec PySem.W PySem.Calls
open PyProof.Rows hiding St
open L2 (OexC)
/-- self.f = f, .. -/
def storesB : List Stmt → Option (List Str)
  | [] => some []
  | .Assign [.Attribute (.Name o _) f _] (.Name v _) _ :: r => if o = "self" ∧ v = f then (storesB r).map (f :: ·) else none
  | _ => none
/-- super().__init__(..), then the stores -/
def initB : List Stmt → Option (List Str)
  | .Expr (.Call (.Attribute (.Call (.Name s _) [] [] _) m p) [.Constant (.str _) _ _] [] p') _ :: r => if s = "super" ∧ m = "__init__" ∧ (p.endLine == p'.line) = true then storesB r else none
  | _ => none
def argsB : Arguments → Option (List Str)
  | ⟨[], as, none, [], [], none, []⟩ => some (as.map (·.arg))
  | _ => none
end Cp
namespace Cp
open PySem PySem.Spec PySem.W PySem.Calls
open PyProof.Rows hiding St
open L2 (OexC)
def scB (sc : Scope) (fs : List Str) : Bool := decide (sc.kind = .function) && (!sc.isCoroutine && (!sc.isGenerator && (decide (sc.names.lookup ("super" : Str) = some NameKind.globalImplicit) && (decide (sc.names.lookup ("__class__" : Str) = some NameKind.free) && (decide (sc.names.lookup ("self" : Str) = some NameKind.local) && ((fs.all fun f => decide (sc.names.lookup f = some NameKind.local)) && sc.names.all fun y => !decide (y.2 = NameKind.cell)))))))
/-- how such a def's parameters are bound -/
def BindF (fs : List Str) : Prop := ∀ (as : List Arg), as.map (·.arg) = ("self" : Str) :: fs → ∀ (name qual : Str) (body : List Stmt) (scope : Scope) (kV doc pm ct : Value) (an : Option Addr) (cda cc : Addr) (v0 : Value) (us : List Value), us.length = fs.length →
  bindArgs (ksFn name qual ⟨[], as, none, [], [], none, []⟩ body scope .none kV doc pm an (.ref cda) ct cc) ⟨v0 :: us, []⟩ = pure ((("self" : Str), v0) :: fs.zip us)
/-- what the written part says of the class C and of its __init__ -/
structure XI (K : Frag) (prog : Program) (C fI : Addr) (fs : List Str) : Prop where
  oex : OexC K C
  iC : findIn K (.ref C) "__init__" = some (some (.ref fI))
  tI : typeIn K (.ref fI) = some (.type "function")
  fn : ∃ (oc : Value) (od : Option Addr) (osl : Array (Option Value)) (qual : Str) (params : Arguments) (body : List Stmt) (scope : Scope) (kV doc pm : Value) (an : Option Addr) (cda : Addr) (ct : Value) (cc : Addr) (vs : Array Value) (tf : Tok) (file : Str) (occ : Value) (odc : Option Addr) (oslc : Array (Option Value)) (cl : Value) (cld : Option Addr) (csl : Array (Option Value)),
    K.lookup fI = some ⟨oc, od, .func (ksFn "__init__" qual params body scope .none kV doc pm an (.ref cda) ct cc), osl⟩ ∧ K.lookup cda = some ⟨occ, odc, .fields vs, oslc⟩ ∧ vs[2]? = some (.str file tf) ∧ ((prog.main.file : Str) == file) = true ∧ K.lookup cc = some ⟨cl, cld, .cell (some (.ref C)), csl⟩ ∧ codeIn K (.ref cda) qual = true ∧
      initB body = some fs ∧ argsB params = some (("self" : Str) :: fs) ∧ scB scope fs = true
  opq : nsIn K cStatics "thirdparty.any" = some none
  sup : ks_superIn K C C "__init__" = some (some (.builtin "ValueError.__init__"))
  self : mroIn K C (.ref C) = some true
  sub : subIn K (.ref C) (.type "ValueError") = some true
  noat : ∀ f ∈ fs, findIn K (.ref C) f = some none
  gsup : nsIn K mainGlobals "super" = some none
  top : (prog.main.scope.names.lookup ("super" : Str)).isSome = false
  ne : fs ≠ []
  le : fs.length ≤ 3
  bf : BindF fs
  nd : (("self" : Str) :: fs).Nodup
  ndb : ∀ f ∈ fs, (f == ("__debug__" : Str)) = false
end Cp
namespace Cp
open PySem PySem.Spec PySem.W PySem.Calls
open PyProof.Rows hiding St
open L2 (OexC)
/-- what every own exception class says -/
structure XG (K : Frag) (C : Addr) : Prop where
  cl : (clsIn K C).isSome = true
  ga : findIn K (.ref C) "__getattribute__" = some (some (.builtin "BaseException.__getattribute__"))
  gg : findIn K (.ref C) "__getattr__" = some none
  ex : subIn K (.ref C) (.type "BaseException") = some true
  hd : hasDictIn K C = true
  ca : findIn K (.ref C) "__class__" = some (some (.builtin "object.__class__"))
  cn : specialIn K (.builtin "object.__class__") "__get__" = some (some (.builtin "getset_descriptor.__get__"))
  ct : takesIn K (.builtin "object.__class__") = some true
  cm : mroIn K C (.type "object") = some true
  kp : keepIn K (.ref C) = true
  ty : typeIn K (.ref C) = some (.type "type")
/-- the own exception classes: names, fields -/
abbrev Cls : Type := List (Str × List Str)
structure XC (K : Frag) (prog : Program) (mg : Str → Option Value) (c : Str) (fs : List Str) : Prop where
  mg : mg c = some (.ref (He.ga K c))
  g : XG K (He.ga K c)
  i : fs ≠ [] → XI K prog (He.ga K c) (He.ma K (He.ga K c) "__init__") fs
  z : fs = [] → excIn K (He.ga K c) He.veBase "ValueError.__new__" = true
  pe : kitOne K (.ref (He.ga K c)) (.ref (He.ga K "PlaneError")) = some true
  ve : kitOne K (.ref (He.ga K c)) (.type "ValueError") = some true
structure XF (K : Frag) (prog : Program) (mg : Str → Option Value) (cls : Cls) : Prop where
  c : ∀ p ∈ cls, XC K prog mg p.1 p.2
  is : ∀ p ∈ cls, ∀ q ∈ cls, kitOne K (.ref (He.ga K p.1)) (.ref (He.ga K q.1)) = some (decide (p.1 = q.1))
  xm : ∀ p ∈ cls, ∀ q ∈ cls, exmOne K (.ref (He.ga K p.1)) (.ref (He.ga K q.1)) = some (decide (p.1 = q.1))
  mp : mg "PlaneError" = some (.ref (He.ga K "PlaneError"))
  ms : mg "super" = none
  xb : ∀ p ∈ cls, exmOne K (.ref (He.ga K p.1)) (.ref (He.ga K "PlaneError")) = some true
end Cp
namespace Cp
open PySem PySem.Spec L2
open PyProof.Rows hiding St
open PySem.W (kitOne InstAt)
end Cp
namespace Cp
open PySem PySem.Spec L2
open PyProof.Rows hiding St
open PySem.W (kitOne InstAt)
end Cp
namespace Cp
open PySem PySem.Spec L2 He
open PyProof.Rows hiding St
end Cp
namespace Cp
open PySem PySem.Spec L2
open PyProof.Rows hiding St
end Cp
namespace Cp
open PySem PySem.Spec L2
open PyProof.Rows hiding St
end Cp
namespace Cp
open PySem PySem.Spec L2
open PyProof.Rows hiding St
open L2N (Zn)
variable {K : PySem.W.Frag} {ε : Type}
inductive Pay where
  | p0
  | pc (p : Int × Int)
  | pi (i : Int)
  | ps (s : Str)
  | pr (h : Str) (q : Int × Int × Int × Int)
  | p3 (i j : Int) (c : (Int × Int) × (Int × Int) × (Int × Int))
  | pb (h : Str) (p q : Int × Int)
deriving DecidableEq
abbrev ErX : Type := Str × Pay
abbrev yQ4 {K : PySem.W.Frag} : Ty K (Int × Int × Int × Int) := yTup (tysC yInt (tysC yInt (tysC yInt (tys1 yInt))))
abbrev yC3 {K : PySem.W.Frag} : Ty K ((Int × Int) × (Int × Int) × (Int × Int)) := yTup (tysC yCn (tysC yCn (tys1 yCn)))
def Pay.rel (K : PySem.W.Frag) : Pay → Hp → List V → Prop
  | .p0, _, vs => vs = []
  | .pc p, F, vs => (tys1 (yCn (K := K))).rel p F vs
  | .pi i, F, vs => (tys1 (yInt (K := K))).rel i F vs
  | .ps s, F, vs => (tys1 (yStr (K := K))).rel s F vs
  | .pr h q, F, vs => (tysC (yStr (K := K)) (tys1 yQ4)).rel (h, q) F vs
  | .p3 i j c, F, vs => (tysC (yInt (K := K)) (tysC yInt (tys1 yC3))).rel (i, j, c) F vs
  | .pb h p q, F, vs => (tysC (yStr (K := K)) (tysC yCn (tys1 yCn))).rel (h, p, q) F vs
theorem Pay.mono {p : Pay} {F F' : Hp} {vs : List V} (e : Same F F') (h : p.rel K F vs) : p.rel K F' vs := by
  cases p with
  | p0 => exact h
  | pc p => exact (tys1 yCn).mono e h
  | pi p => exact (tys1 yInt).mono e h
  | ps p => exact (tys1 yStr).mono e h
  | pr h' q => exact (tysC yStr (tys1 yQ4)).mono e h
  | p3 i j c => exact (tysC yInt (tysC yInt (tys1 yC3))).mono e h
  | pb h' p q => exact (tysC yStr (tysC yCn (tys1 yCn))).mono e h
theorem Pay.imm {p : Pay} {F F' : Hp} {vs : List V} (e : ∀ p o, F p = some o → ¬ Lc o → F' p = some o) (h : p.rel K F vs) : p.rel K F' vs := by
  cases p with
  | p0 => exact h
  | pc p => exact imm_1 (imm_tup (imm_C imm_int (imm_1 imm_int))) e h
  | pi p => exact imm_1 imm_int e h
  | ps p => exact imm_1 imm_str e h
  | pr h' q => exact imm_C imm_str (imm_1 (imm_tup (imm_C imm_int (imm_C imm_int (imm_C imm_int (imm_1 imm_int)))))) e h
  | p3 i j c => exact imm_C imm_int (imm_C imm_int (imm_1 (imm_tup (imm_C (imm_tup (imm_C imm_int (imm_1 imm_int))) (imm_C (imm_tup (imm_C imm_int (imm_1 imm_int))) (imm_1 (imm_tup (imm_C imm_int (imm_1 imm_int))))))))) e h
  | pb h' p q => exact imm_C imm_str (imm_C (imm_tup (imm_C imm_int (imm_1 imm_int))) (imm_1 (imm_tup (imm_C imm_int (imm_1 imm_int))))) e h
def exRel (K : PySem.W.Frag) (cls : Cls) (e : ErX) (F : Hp) (cv : Value) (od : Option Addr) (H : Hp) : Prop :=
  ∃ fs vs, cls.lookup e.1 = some fs ∧ cv = .ref (He.ga K e.1) ∧ vs.length = fs.length ∧ e.2.rel K F vs ∧ (fs = [] ∧ od = none ∨ ∃ dx, od = some dx ∧ H dx = some (exd dx (fs.zip vs)))
end Cp
namespace Cp
open PySem PySem.Spec L2
open PyProof.Rows hiding St
open L2N (Zn)
open PySem.W (kitOne InstAt)
variable {K : PySem.W.Frag}
theorem exRel.mono {cls : Cls} {e : ErX} {F F' : Hp} {cv : Value} {od : Option Addr} (s : Same F F') (h : exRel K cls e F cv od F) : exRel K cls e F' cv od F' := by
  obtain ⟨fs, vs, h1, h2, h3, h4, h5⟩ := h
  exact ⟨fs, vs, h1, h2, h3, Pay.mono s h4, h5.imp id fun ⟨dx, e1, e2⟩ => ⟨dx, e1, s _ _ e2⟩⟩
def yHe (K : PySem.W.Frag) (cls : Cls) (a : Addr) (cv : Value) (od : Option Addr) : Ty K ErX := ⟨fun e F v => v = .ref a ∧ exRel K cls e F cv od F, fun s ⟨h1, h2⟩ => ⟨h1, exRel.mono s h2⟩⟩
def noX {ε α : Type} : R ε α → R ε α
  | .exn _ => .bad
  | r => r
end Cp
namespace Cp
open PySem PySem.Spec L2
open PyProof.Rows hiding St
open L2N (Zn)
open L2H (RoomH HotC Hot1 FnH cxH PinOk fn_ofH pe_callH roomH_of)
open PySem.W (kitOne InstAt)
variable {K : PySem.W.Frag} {ε : Type}
def gB2 : Pay → Option (Int × Int)
  | .pb _ p _ => some p
  | _ => none
theorem hb2 {p : Pay} {x : Int × Int} {F : Hp} {vs : List V} (h : gB2 p = some x) (r : p.rel K F vs) : ∃ v, vs[1]? = some v ∧ (yCn (K := K)).rel x F v := by
  cases p <;> simp only [gB2, reduceCtorEq, Option.some.injEq] at h
  subst h; obtain ⟨_, _, rfl, _, v, _, rfl, r, _⟩ := r; exact ⟨v, rfl, r⟩
end Cp
namespace Cp
open PySem PySem.Spec L2 RZ
open PyProof.Rows hiding St
variable {K : PySem.W.Frag} {ε : Type}
section
variable {α β : Type} {X : Cx} {J : Jc X.K ε} {ρ : Ev X.K} {e e2 : Expr} {t t2 : TE} {pos p : Pos} {T : Ty X.K α} {U : Ty X.K β} {ml : R ε (List α)} {mk : R ε (List β)}
abbrev yPair {α β : Type} (T : Ty K α) (U : Ty K β) : Ty K (α × β) := yTup (tysC T (tys1 U))
theorem zip_get {l : List α} {k : List β} {i : Nat} (h : i < (List.zip l k).length) : ∃ (h1 : i < l.length) (h2 : i < k.length), (List.zip l k)[i] = (l[i], k[i]) := by
  have h' := h
  rw [List.length_zip] at h'
  refine ⟨by omega, by omega, ?_⟩
  simp [List.getElem_zip]
end
end Cp
namespace Cp
open PySem PySem.Spec L2
open PyProof.Rows hiding St
end Cp
namespace Cp
open PySem PySem.Spec L2
open PyProof.Rows hiding St
end Cp
namespace Cp
open PySem PySem.Spec L2
open PyProof.Rows hiding St
open L2N (Zn)
variable {K : PySem.W.Frag}
/-- a clause: except x as n -/
structure Cl where
  x : Str
  n : Str
  i : Nat
  np : Pos
  ep : Pos
  st : Stmt
  su : List Stmt
  c : Value
  ts : Addr → Value → Option Addr → TS
def Cl.h (q : Cl) : ExceptHandler := .ExceptHandler (some (.Name q.x q.np)) (some q.n) (q.st :: q.su) q.ep
structure ClOk (X : Cx) (q : Cl) : Prop where
  hi : X.N[q.i]? = some q.n
  hl : X.env.kindOf q.n = some .local
  hc : Names X q.x q.c
  su : ∀ (a : Addr) (oe : Obj) (cv : Value) (d : Option Addr) (pn : List (Addr × Obj)), Zn cv d oe → (∃ vs, oe.data = .fields vs) → PSs (X.suite a ((a, oe) :: pn)) (q.st :: q.su) (q.ts a cv d)
def hdl {τ : Type} : List (Str × (ErX → R ErX τ)) → ErX → R ErX τ
  | [], _ => .bad
  | (c, h) :: r, e => if e.1 = c then noX (h e) else hdl r e
section
variable {α τ : Type} {X : Cx} {J : Jc X.K ErX} {ρ : Ev X.K} {body : List Stmt} {pos : Pos} {cls : Cls} {tb : WX → TS} {ρb : α → Ev X.K} {I : τ → Oc X.K} {mb : R ErX α} {f : α → τ}
structure ClD (X : Cx) (J : Jc X.K ErX) (ρ eh2 : Ev X.K) (cls : Cls) (I : τ → Oc X.K) (q : Cl) (p : Str × (ErX → R ErX τ)) : Prop where
  hx : q.x = p.1
  hc : q.c = .ref (He.ga X.K p.1)
  lk : ∃ fs, cls.lookup p.1 = some fs
  gl : Gl X p.1
  db : (p.1 == ("__debug__" : Str)) = false
  hi : X.N[q.i]? = some q.n
  hl : X.env.kindOf q.n = some .local
  su : ∀ (a : Addr) (oe : Obj) (cv : Value) (d : Option Addr) (pn : List (Addr × Obj)), Zn cv d oe → (∃ vs, oe.data = .fields vs) → ∀ e : ErX, DS (X.suite a ((a, oe) :: pn)) ⟨J.EX, fun _ _ _ _ => False, eh2⟩ (ρ.set q.i (some (.pl (yHe X.K cls a cv d) e))) (q.st :: q.su) (q.ts a cv d) I (p.2 e)
  ho : ∀ z, (∃ ρ2, I z = .nx ρ2 ∧ ρ2[q.i]? = some none) ∨ ∃ P, I z = .rt P
theorem ClD.ok {eh2 : Ev X.K} (xf : XF X.K X.prog X.mg cls) {q : Cl} {p : Str × (ErX → R ErX τ)} (c : ClD X J ρ eh2 cls I q p) : ClOk X q := by
  obtain ⟨fs, lk⟩ := c.lk
  refine ⟨c.hi, c.hl, ?_, fun a oe cv d pn hz hv => (c.su a oe cv d pn hz hv ("", .p0)).ps⟩
  rw [c.hx, c.hc]
  exact ⟨c.gl, c.db, .inl (xf.c _ (PySem.mem_of_lookup lk)).mg⟩
end
end Cp
namespace Cp
open PySem PySem.Spec L2
open PyProof.Rows hiding St
end Cp
namespace Cp
open PySem PySem.Spec L2
open PyProof.Rows hiding St
open L2N (Zn)
instance inhSum {α β : Type} [Inhabited α] : Inhabited (α ⊕ β) := ⟨.inl default⟩
section
variable {α τ : Type} {X : Cx} {J : Jc X.K ErX} {ρ : Ev X.K} {body su su' : List Stmt} {b₀ b₀' : Stmt} {np np' ep ep' pos : Pos} {c c' n n' : Str} {i i' : Nat} {cls : Cls} {ρb : α → Ev X.K} {I : τ → Oc X.K} {mb : R ErX α} {f : α → τ} {h h' : ErX → R ErX τ} {fs fs' : List Str} {eh2 : Ev X.K}
/-- the reading that a block's mirror tells -/
def tSem {K : PySem.W.Frag} (J : Jc K ErX) (ρ : Ev K) (I : τ → Oc K) (m : R ErX τ) : TS := fun D σ H => ∃ b F, Sta b ρ F σ H ∧ PostS J b F D I m
def TryB (X : Cx) (J : Jc X.K ErX) (ρ : Ev X.K) (body : List Stmt) (ρb : α → Ev X.K) (mb : R ErX α) : Prop :=
  ∀ (W : WX) (pn : List (Addr × Obj)) (xe : Value → Shared → Prop), L2N.Takes (X.tr pn xe) W → ∃ t : TS, DS (X.tr pn xe) ⟨J.EX, fun σ cls d H => W cls d σ H, ρ⟩ ρ body t (fun a => .nx (ρb a)) mb
def SuiB (X : Cx) (J : Jc X.K ErX) (ρ eh2 : Ev X.K) (cls : Cls) (i : Nat) (su : List Stmt) (I : τ → Oc X.K) (h : ErX → R ErX τ) : Prop :=
  ∀ (a : Addr) (cv : Value) (d : Option Addr) (oe : Obj) (pn : List (Addr × Obj)), Zn cv d oe → (∃ vs, oe.data = .fields vs) → ∀ e : ErX, ∃ t : TS, DS (X.suite a ((a, oe) :: pn)) ⟨J.EX, fun _ _ _ _ => False, eh2⟩ (ρ.set i (some (.pl (yHe X.K cls a cv d) e))) su t I (h e)
def tBody (X : Cx) (J : Jc X.K ErX) (ρ : Ev X.K) (ρb : α → Ev X.K) (mb : R ErX α) (W : WX) : TS := tSem (K := X.K) ⟨J.EX, fun σ cls d H => W cls d σ H, ρ⟩ ρ (fun a => .nx (ρb a)) mb
def tSuite (X : Cx) (J : Jc X.K ErX) (ρ eh2 : Ev X.K) (cls : Cls) (i : Nat) (I : τ → Oc X.K) (h : ErX → R ErX τ) (a : Addr) (cv : Value) (d : Option Addr) : TS := fun D σ H => ∃ e, tSem (K := X.K) ⟨J.EX, fun _ _ _ _ => False, eh2⟩ (ρ.set i (some (.pl (yHe X.K cls a cv d) e))) I (h e) D σ H
theorem TryB.ds {W : WX} {pn : List (Addr × Obj)} {xe : Value → Shared → Prop} (hb : TryB X J ρ body ρb mb) (tk : L2N.Takes (X.tr pn xe) W) : DS (X.tr pn xe) ⟨J.EX, fun σ cls d H => W cls d σ H, ρ⟩ ρ body (tBody X J ρ ρb mb W) (fun a => .nx (ρb a)) mb := by
  obtain ⟨t, h⟩ := hb W pn xe tk
  exact ⟨⟨fun pins s σ H D I0 ⟨b, F, S, q⟩ => h.ps.run pins s σ H D I0 (h.ev b F σ H D S q)⟩, fun b F σ H D S q => ⟨b, F, S, q⟩⟩
theorem SuiB.ds {a : Addr} {cv : Value} {d : Option Addr} {oe : Obj} {pn : List (Addr × Obj)} (hs : SuiB X J ρ eh2 cls i su I h) (hz : Zn cv d oe) (hv : ∃ vs, oe.data = .fields vs) (e : ErX) :
    DS (X.suite a ((a, oe) :: pn)) ⟨J.EX, fun _ _ _ _ => False, eh2⟩ (ρ.set i (some (.pl (yHe X.K cls a cv d) e))) su (tSuite X J ρ eh2 cls i I h a cv d) I (h e) :=
  ⟨⟨fun pins s σ H D I0 ⟨e', b, F, S, q⟩ => by
    obtain ⟨t, g⟩ := hs a cv d oe pn hz hv e'
    exact g.ps.run pins s σ H D I0 (g.ev b F σ H D S q)⟩, fun b F σ H D S q => ⟨e, b, F, S, q⟩⟩
/-- the reading of a statement, whichever fits -/
def tAnyS (X : Cx) (st : Stmt) : TS := fun D σ H => ∃ t, PS X st t ∧ t D σ H
theorem DS1.any {st : Stmt} {m : R ErX τ} (h : ∃ t, DS1 X J ρ st t I m) : DS1 X J ρ st (tAnyS X st) I m :=
  ⟨⟨fun pins s σ H D I0 ⟨t, p, q⟩ => p.run pins s σ H D I0 q⟩, fun b F σ H D S q => let ⟨t, g⟩ := h; ⟨t, g.ps, g.ev b F σ H D S q⟩⟩
end
end Cp
namespace Cp
open PySem PySem.Spec L2 RZ
open PyProof.Rows hiding St
/-- the list at a and the text z, their items in new pairs -/
def ItLS (K : PySem.W.Frag) (a : Addr) (z : Str) : It :=
  ⟨fun i H => ∃ (ks : List V) (g : V) (c : Nat), SqL K H a ks ∧ ks[i]? = some g ∧ z.cps[i]? = some c,
    fun i H v H2 => ∃ (N : Addr) (g : V) (c : Nat), v = .ref N ∧ H N = none ∧ H2 = upd H N (.tup [g, .str ⟨#[c]⟩]) ∧ (∀ ks, SqL K H a ks → ks[i]? = some g) ∧ z.cps[i]? = some c,
    fun i H => ∃ ks : List V, SqL K H a ks ∧ (ks.length ≤ i ∨ z.cps.size ≤ i)⟩
/-- an iterator of a list that has come to its end at i -/
theorem draws_over {prog : Program} {w : World} {A : Around} (hh : A.handled = none) (it l : Addr) (hne : l ≠ it) (items : Array Value) (i : Nat) (hi : items[i]? = none) :
    Draws prog w A it [it, l] i (fun _ _ => True) (fun j h => j = i ∧ h.IsListIter it l i ∧ h.IsList l items) where
  live := fun _ _ st => by obtain ⟨_, ⟨o, ho, _⟩, _⟩ := st; exact ⟨o, ho⟩
  frame := fun _ _ _ st hk => ⟨st.1, st.2.1.at fun o e => hk it (by simp) o e, st.2.2.at fun o e => hk l (by simp) o e⟩
  item := fun j s Q E hj st _ => absurd st.1 (Nat.ne_of_lt hj)
  done := fun s Q E st hE => wpAny_nextOf_list_end hh st.2.1 st.2.2 hi hE
def zTn (z : Str) (tk : Tok) (it TI TO p q a : Addr) (i : Nat) (h : Heap) : Prop :=
  IsZip h it TI TO .none ∧ IsTupOf2 h TI (.ref p) (.ref q) ∧ (∃ x y, IsTupOf2 h TO x y) ∧ h.IsListIter p a i ∧ h.IsStrIter q (strIterType z) z tk i ∧ i ≤ z.cps.size
structure Far5 (it TI TO p q a : Addr) : Prop where
  c1 : TI ≠ it
  c2 : TO ≠ it
  c3 : TI ≠ TO
  c4 : TI ≠ p
  c5 : TI ≠ q
  c6 : it ≠ p
  c7 : it ≠ q
  c8 : TO ≠ p
  c9 : TO ≠ q
  c10 : p ≠ q
  c11 : a ≠ it
  c12 : a ≠ TO
  c13 : a ≠ p
  c14 : a ≠ q
theorem Far5.sep {it TI TO p q a : Addr} (D : Far5 it TI TO p q a) : ZipSep2 it TI TO p q [p, a] [q] where
  TIz := D.c1
  TOz := D.c2
  TITO := D.c3
  TIi1 := D.c4
  mem1 := by simp
  zf1 := by simp [D.c6, D.c11.symm]
  Tf1 := by simp [D.c8, D.c12.symm]
  TIi2 := D.c5
  mem2 := by simp
  zf2 := by simp [D.c7]
  Tf2 := by simp [D.c9]
  sep1_2 := by simp [D.c10]
  sep2_1 := by simp [D.c10.symm, D.c14.symm]
theorem turn_zipLS {P : Program} {w : World} {K : PySem.W.Frag} {elts : List Expr} {kk : Nat} {tpos : Pos} {z : Str} {tk : Tok} {it TI TO p q a : Addr} (D : Far5 it TI TO p q a) :
    Turn P w K (.Tuple elts kk tpos) (ItLS K a z) [it, TI, TO, p, q] it (zTn z tk it TI TO p q a) where
  mem := List.mem_cons_self ..
  obj := fun i h st b hb => by
    obtain ⟨e1, e2, ⟨x, y, e3⟩, ⟨o1, e4, _, d4⟩, ⟨o2, e5, _, d5⟩, _⟩ := st
    simp only [List.mem_cons, List.not_mem_nil, or_false] at hb
    rcases hb with g | g | g | g | g <;> subst g
    · exact ⟨_, e1, fun v u => nomatch u⟩
    · exact ⟨_, e2, fun v u => nomatch u⟩
    · exact ⟨_, e3, fun v u => nomatch u⟩
    · exact ⟨o1, e4, fun v u => by rw [d4] at u; cases u⟩
    · exact ⟨o2, e5, fun v u => by rw [d5] at u; cases u⟩
  keep := fun i h h' st k => by
    obtain ⟨e1, e2, ⟨x, y, e3⟩, e4, ⟨o, e5, r⟩, e6⟩ := st
    exact ⟨k it (by simp) _ e1, k TI (by simp) _ e2, ⟨x, y, k TO (by simp) _ e3⟩, e4.at fun o u => k p (by simp) o u, ⟨o, k q (by simp) o e5, r⟩, e6⟩
  item := by
    intro X hP hw hK hc i pins s σ H E I hf st hg
    subst hP hw hK
    obtain ⟨e1, e2, ⟨x0, y0, e3⟩, e4, e5, e6⟩ := st
    obtain ⟨ks, g, c, q1, g1, g2⟩ := hg
    obtain ⟨its, rv, pl, _⟩ := I.list q1
    obtain ⟨u, hu, ru⟩ := rv.get g1
    have hn1 : i < its.toArray.size := by
      have := List.getElem?_eq_some_iff.mp hu
      simpa using this.1
    have hn2 : i < z.cps.size := by
      have := Array.getElem?_eq_some_iff.mp g2
      exact this.1
    have hz : it < s.heap.objs.size := Heap.lt_size e1
    have hd : X.A.in1.handled = none := I.ok.hd hc
    refine wpAny_pyNext_zipD2_item D.sep (Draws.list hd p a D.c13 its.toArray) (Draws.text hd q z tk) e1 e2 e3 ⟨e4, pl.isList⟩ e5 hn1 hn2 fun x1 x2 h' tk' y1 y2 b1 b2 d1 d2 b5 b6 b7 => ?_
    obtain ⟨c', t', y3, y4⟩ := y2
    have hx1 : x1 = u := by
      have y1' : its.toArray[i]? = some x1 := y1
      rw [List.getElem?_toArray, hu] at y1'
      exact (Option.some.inj y1').symm
    rw [g2] at y3
    have hcc := Option.some.inj y3
    subst hx1 hcc y4
    refine ⟨_, rfl, wpAny_letOwnedTupleGo_zip (s := { s with heap := h', toks := tk' }) b1 fun h2 z2 sb => ?_⟩
    have far : ∀ b, b ≠ it → ∀ o, h'.get? b = some o → h2.get? b = some o := fun b hb o e => (sb.2 b hb).trans e
    have T2 := far _ (Nat.ne_of_gt hz) _ b5
    have I1 : Inv X pins σ (upd H s.heap.objs.size (.tup [g, .str ⟨#[c]⟩])) { s with heap := h2, toks := tk' } :=
      I.turnedNew (ch := [it, TI, TO, p, q]) (fun b o hb e => by
        simp only [List.mem_cons, List.not_mem_nil, or_false, not_or] at hb
        exact far b hb.1 o (b7 b o hb.1 hb.2.2.1 hb.2.2.2.1 hb.2.2.2.2 e)) hf (Nat.le_refl _)
        ⟨by show 2 ≤ sizeLine; decide, [x1, .str ⟨#[c]⟩ t'], .cons ru (.cons ⟨t', rfl⟩ .nil), ⟨_, T2, rfl, _, rfl⟩⟩
    obtain ⟨o5, e5', r5⟩ := d2
    refine ⟨.ref s.heap.objs.size, _, I1, rfl, ⟨_, g, c, rfl, I.hok.fresh (Nat.le_refl _), rfl, fun l hl => by rw [I.list_inj hl q1]; exact g1, g2⟩, ⟨z2, far _ D.c1 _ (b7 _ _ D.c1 D.c3 D.c4 D.c5 e2), ⟨_, _, far _ D.c2 _ b2⟩, d1.1.at fun o e => far _ D.c6.symm o e, ⟨o5, far _ D.c7.symm o5 e5', r5⟩, hn2⟩, fun b hb => ?_⟩
    have hlt : b < s.heap.objs.size := by
      obtain ⟨o1, f4, _⟩ := e4
      obtain ⟨o2, f5, _⟩ := e5
      simp only [List.mem_cons, List.not_mem_nil, or_false] at hb
      rcases hb with g | g | g | g | g <;> subst g
      · exact hz
      · exact Heap.lt_size e2
      · exact Heap.lt_size e3
      · exact Heap.lt_size f4
      · exact Heap.lt_size f5
    rw [upd_ne (Nat.ne_of_lt hlt)]
    exact (hf b hb).1
  done := by
    intro X hP hw hK hc i pins s σ H E I hf st hg
    subst hP hw hK
    obtain ⟨e1, e2, ⟨x0, y0, e3⟩, e4, e5, e6⟩ := st
    obtain ⟨ks, q1, hend⟩ := hg
    obtain ⟨its, rv, pl, _⟩ := I.list q1
    have ll := rv.length
    have hd : X.A.in1.handled = none := I.ok.hd hc
    have fin : ∀ h' (t' : Nat), (∀ c o, c ≠ it → c ≠ TO → c ≠ p → c ≠ q → s.heap.get? c = some o → h'.get? c = some o) → Inv X pins σ H { s with heap := h', toks := t' } := fun h' t' hk =>
      I.turnedL (ch := [it, TI, TO, p, q]) (fun b o hb e => by
        simp only [List.mem_cons, List.not_mem_nil, or_false, not_or] at hb
        exact hk b o hb.1 hb.2.2.1 hb.2.2.2.1 hb.2.2.2.2 e) hf
    by_cases hl : its.length ≤ i
    · exact wpAny_pyNext_zipD2_end (i := i) D.sep (draws_over hd p a D.c13 its.toArray i (by simp [hl])) (Draws.text hd q z tk) e1 e2 e3 ⟨rfl, e4, pl.isList⟩ e5 (Nat.le_refl _) e6 (.inl rfl) fun h' t' hk => ⟨rfl, fin h' t' hk⟩
    · have hz : i = z.cps.size := by omega
      exact wpAny_pyNext_zipD2_end (i := i) D.sep (Draws.list hd p a D.c13 its.toArray) (Draws.text hd q z tk) e1 e2 e3 ⟨e4, pl.isList⟩ e5 (by simp; omega) e6 (.inr hz) fun h' t' hk => ⟨rfl, fin h' t' hk⟩
  self := fun A i s Q E st h => wpAny_pyIter_zip st.1 h
def iZipLS (K : PySem.W.Frag) (ta : TA) : TI := fun σ H R => ta σ H fun vs H1 => ∃ a z ks, vs = [.ref a, .str z] ∧ SqL K H1 a ks ∧ R (ItLS K a z) H1
theorem pi_zipLS {X : Cx} {e e2 : Expr} {ta : TA} {p pos tpos : Pos} {elts : List Expr} {kk : Nat} (hg : Gl X "zip") (hm : X.mg "zip" = none) (ha : PA X [e, e2] ta)
    (hs : starEach [e, e2] X.env = (false, eval e X.env) :: starEach [e2] X.env := by rfl) (hpl : (backTo pos (starEach [e2] X.env)).any (·.1) = false := by rfl) :
    PI X (.Tuple elts kk tpos) (.Call (.Name "zip" p) [e, e2] [] pos) (iZipLS X.K ta) := by
  refine ⟨fun pins s σ H R I h => ?_⟩
  refine Call_ (ld_blt I hg hm PyProof.Rows.boot_zip (PyProof.Rows.callWith_type1 (thn (ha.run pos pins s σ H _ I h) fun us s1 ⟨vs, H1, I1, r1, w1⟩ => ?_) hs hpl))
  obtain ⟨a, z, ks, ex, q1, w1⟩ := w1
  subst ex
  obtain _ | ⟨r, rr⟩ := r1
  obtain _ | ⟨r', rr⟩ := rr
  cases rr
  cases r
  obtain ⟨tk, rfl⟩ := r'
  obtain ⟨its, rv, pl, _⟩ := I1.list q1
  have la : a < s1.heap.objs.size := pl.lt
  refine zip_begins2 (begins_list a its.toArray) (begins_text z tk) pl.isList trivial fun h' f1 f2 f3 f4 f5 f6 f7 => ?_
  refine wpAny_pyIter_zip f1 ?_
  have I2 : Inv X pins σ H1 { s1 with heap := h' } := I1.kept (t' := s1.toks) f7
  have D : Far5 (s1.heap.objs.size + 4) (s1.heap.objs.size + 2) (s1.heap.objs.size + 3) s1.heap.objs.size (s1.heap.objs.size + 1) a := by
    constructor <;> (intro g; simp only [Addr] at *; omega)
  refine ⟨_, _, _, _, H1, rfl, I2, turn_zipLS (tk := tk) D, ⟨f1, f2, ⟨_, _, f3⟩, ⟨_, f4, rfl, rfl⟩, ⟨_, f5, rfl, rfl⟩, Nat.zero_le _⟩, fun b hb => ?_, w1⟩
  have hle : s1.heap.objs.size ≤ b := by
    simp only [List.mem_cons, List.not_mem_nil, or_false] at hb
    simp only [Addr] at *
    omega
  exact I1.fpOk hle (I1.hok.fresh hle)
section
variable {K : PySem.W.Frag} {ε : Type} {α β : Type} {X : Cx} {J : Jc X.K ε} {ρ : Ev X.K} {e e2 : Expr} {t t2 : TE} {pos p : Pos} {T : Ty X.K α} {ml : R ε (List α)} {mk : R ε Str}
theorem walks_zipLS {a : Addr} {l : List α} {z : Str} {F0 : Hp} {ks : List V} (h : F0 a = some (.lst ks)) (rx : T.all l F0 ks) (hz : (signs z).all PySem.PyData.strOk = true) : Walks (ItLS X.K a z) (yPair T yStr) (List.zip l (signs z)) F0 := fun i F H h1 h2 => by
  have hl := Paired.length rx
  have hk : (signs z).length = z.cps.size := by unfold signs; rw [List.length_map, Array.length_toList]
  have sq : SqL X.K H a ks := .of ((h1.trans h2) _ _ h)
  refine ⟨fun hi => ?_, fun hi => ⟨ks, sq, by rw [List.length_zip] at hi; omega⟩⟩
  obtain ⟨i1, i2, e0⟩ := zip_get hi
  obtain ⟨v, e1, f1⟩ := all_get rx (List.getElem?_eq_getElem i1)
  have i3 : i < z.cps.size := by omega
  have e2 : z.cps[i]? = some z.cps[i] := Array.getElem?_eq_getElem i3
  refine ⟨⟨ks, v, _, sq, e1, e2⟩, fun x G ⟨N, g, c, h3, h4, h5, h6, h7⟩ => ?_⟩
  subst h3 h5
  have z1 := h6 ks sq
  rw [e1] at z1; cases z1
  rw [e2] at h7; cases h7
  have s0 := h1.trans (same_upd (o := HO.tup [v, .str ⟨#[z.cps[i]]⟩]) (h2.free h4))
  have hx : (signs z)[i]? = some ⟨#[z.cps[i]]⟩ := by unfold signs; rw [List.getElem?_map, Array.getElem?_toList, e2]; rfl
  have hx2 := List.getElem?_eq_getElem i2
  rw [hx] at hx2
  exact ⟨same_upd h4, _, Gr.new h2 h4, same_upd2 h2 h4, by
    rw [e0, ← Option.some.inj hx2]
    exact ⟨N, _, rfl, .of upd_same, v, _, rfl, T.mono s0 f1, _, rfl, rfl, List.all_eq_true.mp hz _ (List.mem_of_getElem? hx)⟩⟩
def rZipS {ε α : Type} (l : List α) (z : Str) : R ε (List (α × Str)) := (rSigns z).bind fun k => .ok (List.zip l k)
theorem di_zipLS {elts : List Expr} {kk : Nat} {tpos : Pos} (hg : Gl X "zip") (hm : X.mg "zip" = none) (ha : DE X J ρ e t (rP (yLst T)) ml) (hb : DE X J ρ e2 t2 (rP yStr) mk)
    (hs : starEach [e, e2] X.env = (false, eval e X.env) :: starEach [e2] X.env := by rfl) (hs2 : starEach [e2] X.env = (false, eval e2 X.env) :: starEach [] X.env := by rfl) (hpl : (backTo pos (starEach [e2] X.env)).any (·.1) = false := by rfl)
    (fs : ∀ x, foldedSetIterable (.Call (.Name "zip" p) [e, e2] [] pos) X.env x = pure x := by intro _; rfl) :
    DI X J ρ (.Tuple elts kk tpos) (.Call (.Name "zip" p) [e, e2] [] pos) (iZipLS X.K (tCons t (tCons t2 tNil))) (yPair T yStr) (ml.bind fun l => mk.bind fun z => rZipS l z) :=
  ⟨pi_zipLS hg hm (pa_cons ha.pe (pa_cons hb.pe pa_nil hs2) hs) hs hpl, fun b F σ H Q S q => ha.ev.thenI S q fun l F1 v H1 g1 S1 r1 q1 => hb.ev.thenI S1 q1 fun z F2 w H2 g2 S2 r2 q2 => by
    obtain ⟨p1, ks, rfl, h2, h3⟩ := r1
    obtain ⟨r2, _⟩ := r2
    subst r2
    have h2' := g2.f _ _ h2
    have h3' := Ty.all_mono g2.f h3
    unfold rZipS rSigns at q2
    by_cases hz : (signs z).all PySem.PyData.strOk = true
    · rw [if_pos hz] at q2
      exact ⟨p1, z, ks, rfl, .of (S2.fh _ _ h2'), PostI.here q2 S2 (walks_zipLS h2' h3' hz)⟩
    · rw [if_neg hz] at q2; exact q2.elim, fs⟩
end
end Cp
namespace Cp
open PySem PySem.Spec L2
open PyProof.Rows hiding St
end Cp
namespace Cp
open PySem PySem.Spec L2
open PyProof.Rows hiding St
variable {K : PySem.W.Frag} {ε : Type}
section
variable {α β γ : Type}
/-- values, one more at the end -/
def tysL (W : Tys K α) (T : Ty K β) : Tys K (α × β) := ⟨W.n + 1, fun a F vs => ∃ ws v, vs = ws ++ [v] ∧ W.rel a.1 F ws ∧ T.rel a.2 F v, fun e ⟨ws, v, h, q, r⟩ => ⟨ws, v, h, W.mono e q, T.mono e r⟩, fun ⟨ws, v, h, q, _⟩ => by rw [h, List.length_append, W.len q]; rfl⟩
/-- an instance of the class x with the fields fs -/
def cObj (x : Str) (fs : List Str) (W : Tys K α) : Ct K α := ⟨fun a F p o => ∃ dx vs, o = .ins (He.ga K x) dx (fs.zip vs) ∧ F dx = some (.own p) ∧ vs.length = fs.length ∧ W.rel a F vs, fun e ⟨dx, vs, h, q, l, r⟩ => ⟨dx, vs, h, e _ _ q, l, W.mono e r⟩, fun ⟨dx, vs, h, _⟩ => by subst h; trivial⟩
def yObj (x : Str) (fs : List Str) (W : Tys K α) : Ty K α := (cObj x fs W).ty
/-- .. the one at p -/
def cObjA (p0 : Addr) (x : Str) (fs : List Str) (W : Tys K α) : Ct K α := ⟨fun a F p o => p = p0 ∧ (cObj x fs W).obj a F p o, fun e ⟨h, q⟩ => ⟨h, (cObj x fs W).mono e q⟩, fun ⟨_, q⟩ => (cObj x fs W).mu q⟩
def yRef (p : Addr) : Ty K Unit := ⟨fun _ _ v => v = .ref p, fun _ h => h⟩
theorem zip_look {fs : List Str} : ∀ {i : Nat} {vs : List V} {f : Str}, fs.Nodup → fs[i]? = some f → vs.length = fs.length → (fs.zip vs).lookup f = vs[i]? := by
  induction fs with
  | nil => intro i vs f _ h _; cases h
  | cons g fs ih =>
    intro i vs f hn h hl
    cases vs with
    | nil => cases hl
    | cons v vs =>
      cases i with
      | zero =>
        cases h
        rw [List.zip_cons_cons, List.lookup_cons]
        simp
      | succ i =>
        rw [List.getElem?_cons_succ] at h
        have ne : (f == g) = false := by
          rw [beq_eq_false_iff_ne]
          rintro rfl
          exact (List.nodup_cons.mp hn).1 (List.mem_of_getElem? h)
        rw [List.zip_cons_cons, List.lookup_cons, ne, List.getElem?_cons_succ]
        exact ih (List.nodup_cons.mp hn).2 h (by simpa using hl)
theorem zip_none {fs : List Str} {vs : List V} {f : Str} (h : f ∉ fs) : (fs.zip vs).lookup f = none := by
  induction fs generalizing vs with
  | nil => rfl
  | cons g fs ih =>
    cases vs with
    | nil => rfl
    | cons v vs =>
      have ne : (f == g) = false := by rw [beq_eq_false_iff_ne]; exact fun e => h (by rw [e]; exact List.mem_cons_self)
      rw [List.zip_cons_cons, List.lookup_cons, ne]
      exact ih fun z => h (List.mem_cons_of_mem _ z)
theorem put_zip {fs : List Str} {vs : List V} {f : Str} {v : V} (h : f ∉ fs) (hl : vs.length = fs.length) : putF f v (fs.zip vs) = (fs ++ [f]).zip (vs ++ [v]) := by
  induction fs generalizing vs with
  | nil =>
    cases vs with
    | nil => rfl
    | cons _ _ => cases hl
  | cons g fs ih =>
    cases vs with
    | nil => cases hl
    | cons w vs =>
      have ne : ¬ g = f := fun e => h (by rw [e]; exact List.mem_cons_self)
      rw [List.zip_cons_cons]
      unfold putF
      rw [if_neg ne, ih (fun z => h (List.mem_cons_of_mem _ z)) (by simpa using hl)]
      rfl
theorem pl_last {W : Tys K α} {T : Ty K β} {n : Nat} (hn : W.n = n) {a : α × β} {F : Hp} {vs : List V} (h : (tysL W T).rel a F vs) : ∃ v, vs[n]? = some v ∧ T.rel a.2 F v := by
  obtain ⟨ws, v, h, q, r⟩ := h
  refine ⟨v, ?_, r⟩
  rw [h, ← hn, ← W.len q, List.getElem?_append_right (Nat.le_refl _), Nat.sub_self]
  rfl
theorem pl_init {W : Tys K α} {S : Ty K γ} {T : Ty K β} {i : Nat} {g : α → γ} (hi : i < W.n) (hp : ∀ {a : α} {F : Hp} {vs : List V}, W.rel a F vs → ∃ v, vs[i]? = some v ∧ S.rel (g a) F v) {a : α × β} {F : Hp} {vs : List V} (h : (tysL W T).rel a F vs) : ∃ v, vs[i]? = some v ∧ S.rel (g a.1) F v := by
  obtain ⟨ws, v, h, q, r⟩ := h
  obtain ⟨u, h1, h2⟩ := hp q
  refine ⟨u, ?_, h2⟩
  rw [h, List.getElem?_append_left (by rw [W.len q]; exact hi)]
  exact h1
end
section
variable {α β γ τ : Type} {X : Cx} {J : Jc X.K ε} {ρ : Ev X.K} {e o : Expr} {es : List Expr} {to te : TE} {t : TA} {pos pos' apos : Pos} {μ : Md} {x f m : Str} {fs : List Str} {W : Tys X.K α} {I : τ → Oc X.K}
/-- o.f -/
theorem de_fld {T : Ty X.K β} {g : α → β} {mo : R ε α} {i : Nat} (cl : L2.Cls X.K (He.ga X.K x)) (na : NoAttr X.K (He.ga X.K x) f) (hn : fs.Nodup) (hi : fs[i]? = some f) (hp : ∀ {a : α} {F : Hp} {vs : List V}, W.rel a F vs → ∃ v, vs[i]? = some v ∧ T.rel (g a) F v)
    (ho : DE X J ρ o to (rV μ (yObj x fs W)) mo) (hb : attributeBase o f X.env (eval o X.env) = eval o X.env := by rfl) : DE X J ρ (.Attribute o f pos) (tFld X.K to f) (rV μ T) (mo.bind fun a => .ok (g a)) :=
  ⟨pe_fld ho.pe hb, fun b F σ H Q S q => ho.ev.then_ S q fun a F1 v H1 g1 S1 r1 q1 => by
    obtain ⟨p, ob, h1, h2, dx, vs, h3, h4, h5, h6⟩ := r1
    subst h1 h3
    obtain ⟨u, h7, h8⟩ := hp h6
    exact ⟨p, _, dx, _, u, rfl, Md.le S1 μ _ _ h2, cl, na, by rw [zip_look hn hi h5]; exact h7, PostE.here q1 S1 h8⟩⟩
/-- self.f = e, a new field -/
theorem ds_fld {T : Ty X.K β} {p0 : Addr} {a : α} {me : R ε β} {i : Nat} (cl : L2.Cls X.K (He.ga X.K x)) (na : NoAttr X.K (He.ga X.K x) f) (hn : f ∉ fs) (hl : fs.length < 900) (hs : PE X o (tVar i)) (hi : ρ[i]? = some (some (.ow (cObjA p0 x fs W) a))) (he : DE X J ρ e te (rP T) me)
    (hsw : swapsWith e (some (.Attribute o f pos')) pos.line X.env = pure false := by rfl) :
    DS1 X J ρ (.Assign [.Attribute o f pos'] e pos) (sFld X.K (tVar i) te f) (fun c => .nx (ρ.set i (some (.ow (cObjA p0 x (fs ++ [f]) (tysL W T)) (a, c))))) me :=
  ⟨ps_fld hs he.pe hsw, fun b F σ H D S q => by
    have q0 : PostS J b F D (fun c => .nx (ρ.set i (some (.ow (cObjA p0 x (fs ++ [f]) (tysL W T)) (a, c))))) (me.bind fun c => .ok c) := by rw [bindok]; exact q
    refine he.ev.thenS S q0 fun c F1 v H1 g1 S1 r1 q1 => ?_
    obtain ⟨w, e1, p, ob, e2, h1, h2, h3, h4, dx, vs, h5, h6, h7, h8⟩ := S1.sl i _ hi
    subst e2 h5
    refine ⟨_, e1, p, _, dx, _, rfl, h1, cl, na, ?_, ?_⟩
    · rw [List.length_zip]; omega
    · rw [put_zip hn h7]
      exact q1 F1 σ _ (Same.refl _) (S1.change hi e1 ⟨h4, dx, vs ++ [v], rfl, h6, by rw [List.length_append, List.length_append, h7]; rfl, vs, v, rfl, h8, r1⟩)⟩
variable {mg : Str → Option Value} {CX : CXT} {k : Nat} {g : Addr} {fd : FuncData} {ps : List Str}
def tMethG (C : Addr) (m : Str) (sp : Sp) (E : St → XK) (ta : TE) (t : TA) : TE := fun σ H Q => ta σ H fun x H1 => ∃ a dx fs, x = .ref a ∧ H1 a = some (.ins C dx fs) ∧ fs.lookup m = none ∧
  t σ H1 fun vs H2 => sp (x :: vs) H2 Q (E σ)
theorem pe_methG {sp : Sp} {E : St → XK} {C : Addr} {pl : Sem Bool} (he : PE X o to) (c : L2.Cls X.K C) (hm : Meth X.K C m g) (F : FnOk X.prog X.w X.K X.mg X.base CX k g fd ps sp) (hr : Room k X.A) (hb : Binds X.K fd ps []) (hx : ∀ σ, PassesAt CX X σ (E σ)) (ha : PA X (e :: es) t)
    (hst : starEach (e :: es) X.env = (false, eval e X.env) :: starEach es X.env := by rfl) (hpl : (backTo pos (starEach es X.env)).any (·.1) = false := by rfl)
    (ht : eval (.Call (.Attribute o m apos) (e :: es) [] pos) X.env = (do
      let ov ← eval o X.env
      standAt apos.atName
      let (f, first) ← holding [ov] (getMethod ov m pl)
      callWith pos f first (backTo pos (starEach (e :: es) X.env)) (backToKw pos (keywordEach [] X.env))) := by rfl) :
    PE X (.Call (.Attribute o m apos) (e :: es) [] pos) (tMethG C m sp E to t) := by
  refine ⟨fun pins s σ H Q I h => ?_⟩
  refine PySem.W.methodCall_KW (pl := pl) (thn (he.run pins s σ H _ I h) fun u s1 ⟨x, H1, I1, rx, a, dx, fs, ex, ea, l, q⟩ => ?_) ht
  subst ex
  obtain rfl : u = Value.ref a := rx
  refine getmeth_ok I1 ea c hm l ?_
  refine PySem.W.callWith_K (first := [.ref a]) (h₀ := X.base) I.ok.mod.kin hm.kp (thn (ha.run pos pins s1 σ H1 _ I1 q) fun us s2 ⟨vs, H2, I2, r, q2⟩ => ⟨I2.kIn, ?_⟩) hst hpl
  have z := run_fnG (dvs := []) (ds := []) (us := .ref a :: us) (vs := .ref a :: vs) F hr hb .nil (hx σ) I2 (.cons rfl r) (by rw [List.append_nil]; exact q2)
  exact z
/-- a method as the others see it -/
structure Met (P : Program) (w : World) (K : PySem.W.Frag) (mg : Str → Option Value) (base : Heap) (CX : CXT) (k : Nat) (x m : Str) (ps : List Str) (sp : Sp) where
  f : Addr
  fd : FuncData
  ok : FnOk P w K mg base CX k f fd ps sp
  cl : L2.Cls K (He.ga K x)
  me : Meth K (He.ga K x) m f
  bd : Binds K fd ps []
variable {U : Tys X.K β} {gm : α × β → R ε γ} {mo : R ε α} {ma : R ε β} {ex : Expr}
theorem de_methPF {C : Ct X.K γ} (hpe : PE X ex (tMethG (He.ga X.K x) m (spD J.EX (tysC (yObj x fs W) U) (qF C) gm) J.E to t)) (hm : m ∉ fs) (ho : DE X J ρ o to (rP (yObj x fs W)) mo) (ha : DAp X J ρ es t U ma) (hw : Wk ρ J.eh) :
    DE X J ρ ex (tMethG (He.ga X.K x) m (spD J.EX (tysC (yObj x fs W) U) (qF C) gm) J.E to t) (rF C) (mo.bind fun a => ma.bind fun c => gm (a, c)) :=
  ⟨hpe, fun b F0 σ H Q S q => ho.ev.then_ S q fun a F1 v H1 g1 S1 r1 q1 => by
    have r1' := r1
    obtain ⟨p, ob, h1, h2, dx, vs, h3, h4, h5, h6⟩ := r1
    subst h1 h3
    refine ⟨p, dx, _, rfl, S1.fh _ _ h2, zip_none hm, ha.ev.then_ S1 q1 fun c F2 ws H2 g2 S2 r2 q2 => ?_⟩
    refine ⟨_, (a, c), S2.fh, S2.tb, S2.nt, ⟨_, _, rfl, Ty.mono _ g2.f r1', r2⟩, ?_⟩
    revert q2
    generalize gm (a, c) = z
    intro q2
    cases z with
    | ok d =>
      intro F' v H' h1 h2 tb h3 h4 h5
      obtain ⟨g2, S2⟩ := call_on S2 h1 h2 tb h3 h4
      obtain ⟨p, o, e1, e2, e3, e4, e5⟩ := h5
      exact q2 F' v H' g2 S2 ⟨p, o, e1, e4, e2, e3, e5⟩
    | exn e' =>
      intro F' cls od H' h1 h2 tb h3 h4 h5 hn
      obtain ⟨g2, S2'⟩ := call_on S2 h1 h2 tb h3 h4
      exact q2 F' σ cls od H' (S2'.wk hw) h5 fun dx z => S2.freshB (hn dx z)
    | bad => exact q2⟩
theorem de_methB {T : Ty X.K γ} (hpe : PE X ex (tMethG (He.ga X.K x) m (spD J.EX (tysC (yObj x fs W) U) (qP T) gm) J.E to t)) (hm : m ∉ fs) (ho : DE X J ρ o to (rP (yObj x fs W)) mo) (ha : DA X J ρ es t U ma) (hi : T.imm) (hw : Wk ρ J.eh) :
    DE X J ρ ex (tMethG (He.ga X.K x) m (spD J.EX (tysC (yObj x fs W) U) (qP T) gm) J.E to t) (rP T) (mo.bind fun a => ma.bind fun c => gm (a, c)) :=
  ⟨hpe, fun b F0 σ H Q S q => ho.ev.then_ S q fun a F1 v H1 g1 S1 r1 q1 => by
    have r1' := r1
    obtain ⟨p, ob, h1, h2, dx, vs, h3, h4, h5, h6⟩ := r1
    subst h1 h3
    refine ⟨p, dx, _, rfl, S1.fh _ _ h2, zip_none hm, ha.ev.then_ S1 q1 fun c F2 ws H2 g2 S2 r2 q2 => ?_⟩
    refine ⟨_, (a, c), Gh.le S2.fh, S2.tb, Gh.nt S2, ⟨_, _, rfl, Ty.mono _ (g2.f.trans Gh.ge) r1', r2⟩, ?_⟩
    revert q2
    generalize gm (a, c) = z
    intro q2
    cases z with
    | ok d =>
      intro F' v H' h1 h2 tb h3 h4 h5
      obtain ⟨F'', g2, S2, h6, h7, h8⟩ := call_back (β := γ) S2 h1 h2 tb h3 h4
      exact q2 F'' v H' g2 S2 (hi h6 h5)
    | exn e' =>
      intro F' cls od H' h1 h2 tb h3 h4 h5 hn
      obtain ⟨F'', g2, S2', h6, h7, h8⟩ := call_back (β := γ) S2 h1 h2 tb h3 h4
      exact q2 F'' σ cls od H' (S2'.wk hw) (J.EX.imm h6 h5) fun dx z => S2.freshB (hn dx z)
    | bad => exact q2⟩
theorem de_methBF {C : Ct X.K γ} (hpe : PE X ex (tMethG (He.ga X.K x) m (spD J.EX (tysC (yObj x fs W) U) (qF C) gm) J.E to t)) (hm : m ∉ fs) (ho : DE X J ρ o to (rP (yObj x fs W)) mo) (ha : DA X J ρ es t U ma) (hi : C.imm) (hw : Wk ρ J.eh) :
    DE X J ρ ex (tMethG (He.ga X.K x) m (spD J.EX (tysC (yObj x fs W) U) (qF C) gm) J.E to t) (rF C) (mo.bind fun a => ma.bind fun c => gm (a, c)) :=
  ⟨hpe, fun b F0 σ H Q S q => ho.ev.then_ S q fun a F1 v H1 g1 S1 r1 q1 => by
    have r1' := r1
    obtain ⟨p, ob, h1, h2, dx, vs, h3, h4, h5, h6⟩ := r1
    subst h1 h3
    refine ⟨p, dx, _, rfl, S1.fh _ _ h2, zip_none hm, ha.ev.then_ S1 q1 fun c F2 ws H2 g2 S2 r2 q2 => ?_⟩
    refine ⟨_, (a, c), Gh.le S2.fh, S2.tb, Gh.nt S2, ⟨_, _, rfl, Ty.mono _ (g2.f.trans Gh.ge) r1', r2⟩, ?_⟩
    revert q2
    generalize gm (a, c) = z
    intro q2
    cases z with
    | ok d =>
      intro F' v H' h1 h2 tb h3 h4 h5
      obtain ⟨F'', g2, S2, h6, h7, h8⟩ := call_back (β := γ) S2 h1 h2 tb h3 h4
      obtain ⟨p, o, e1, e2, e3, e4, e5⟩ := h5
      exact q2 F'' v H' g2 S2 ⟨p, o, e1, e4, e2, h8 _ e3, hi h6 e5⟩
    | exn e' =>
      intro F' cls od H' h1 h2 tb h3 h4 h5 hn
      obtain ⟨F'', g2, S2', h6, h7, h8⟩ := call_back (β := γ) S2 h1 h2 tb h3 h4
      exact q2 F'' σ cls od H' (S2'.wk hw) (J.EX.imm h6 h5) fun dx z => S2.freshB (hn dx z)
    | bad => exact q2⟩
end
end Cp
namespace Cp
open PySem PySem.Spec L2
open PyProof.Rows hiding St
variable {K : PySem.W.Frag} {ε : Type}
def lessH (H : Hp) (p : Addr) : Hp := fun a => if a = p then none else H a
theorem lessH_same {H : Hp} {p : Addr} : lessH H p p = none := if_pos rfl
theorem lessH_ne {H : Hp} {a p : Addr} (h : a ≠ p) : lessH H p a = H a := if_neg h
theorem lessH_le {H : Hp} {p : Addr} : Same (lessH H p) H := fun a o e => by
  by_cases h : a = p
  · subst h; rw [lessH_same] at e; cases e
  · rwa [lessH_ne h] at e
section
variable {α β : Type}
/-- the promise of an __init__: the instance is given its fields -/
def spI (EX : Ex ε) (x : Str) (fs : List Str) (U : Tys K α) (W : Tys K β) (f : α → R ε β) : Sp := fun vs H Q E => ∃ F a p dx rest, vs = .ref p :: rest ∧ H p = some (.ins (He.ga K x) dx []) ∧ F p = none ∧ F dx = some (.own p) ∧
  Same F H ∧ Tbs (tabs K) H ∧ (∀ q ∈ tabs K, F q.1 = none) ∧ U.rel a F rest ∧ match f a with
  | .ok c => ∀ F' H' o, Same F F' → Sm (lessH H p) H' → Tbs (tabs K) H' → Same F' H' → Nw ⟨lessH H p, F⟩ F' → F' p = none → H' p = some o → (cObj x fs W).obj c F' p o → Q .non H'
  | .exn e => ∀ F' cls od H', Same F F' → Sm (lessH H p) H' → Tbs (tabs K) H' → Same F' H' → Nw ⟨lessH H p, F⟩ F' → EX.rel e F' cls od H' → (∀ dx, od = some dx → lessH H p dx = none) → E cls od H'
  | .bad => False
theorem Sta.enterI {U : Tys K α} {N : List Str} {n : Nat} {ρ0 : α → Ev K} {x self : Str} (h : Ent U N n ρ0) {a : α} {F H : Hp} {p dx : Addr} {vs : List V} (hp : H p = some (.ins (He.ga K x) dx [])) (fp : F p = none) (fd : F dx = some (.own p)) (fh : Same F H) (tb : Tbs (tabs K) H) (nt : ∀ q ∈ tabs K, F q.1 = none) (r : U.rel a F vs) :
    Sta ⟨lessH H p, F⟩ (some (.ow (cObjA p x [] tys0) ()) :: ρ0 a) F (start (self :: N) (.ref p :: vs)) H where
  h0 := .of lessH_le
  tb := tb
  nt := nt
  f0 := Same.refl _
  fh := fh
  nw := fun c o e z => by rw [show F c = none from z] at e; cases e
  len := by
    have l1 := h.len a F vs r
    have l2 := h.le
    rw [List.length_cons, h.rho]
    unfold L2.start
    rw [List.length_append, List.length_map, List.length_replicate, List.length_cons, List.length_cons]
    omega
  sl := fun i s e => by
    cases i with
    | zero =>
      cases e
      exact ⟨.ref p, rfl, p, _, rfl, hp, fp, lessH_same, rfl, dx, [], rfl, fd, rfl, rfl⟩
    | succ i =>
      rw [List.getElem?_cons_succ] at e
      obtain ⟨v, e1, e2⟩ := h.at_ a F vs i s r e
      refine ⟨v, ?_, e2 _ _⟩
      have hi : i < vs.length := (List.getElem?_eq_some_iff.mp e1).1
      unfold L2.start
      rw [List.getElem?_append_left (by rw [List.length_map, List.length_cons]; omega), List.getElem?_map, List.getElem?_cons_succ, e1]
      rfl
  ds := fun i j s t v e1 e2 o1 o2 e3 e4 => by
    cases i with
    | zero =>
      cases j with
      | zero => rfl
      | succ j => rw [List.getElem?_cons_succ] at e2; rw [h.pl a j t e2] at o2; cases o2
    | succ i => rw [List.getElem?_cons_succ] at e1; rw [h.pl a i s e1] at o1; cases o1
/-- THE RULE for an __init__ -/
theorem fn_okI {P : Program} {w : World} {mg : Str → Option Value} {base : Heap} {CX : CXT} {x name qual self : Str} {params : Arguments} {body : List Stmt} {scope : Scope} {dvs : List V} {kws : List (Str × V)} {f : Addr} {fd : FuncData} {N ps : List Str} {k n : Nat}
    {U : Tys K α} {W : Tys K β} {fs : List Str} {ρ0 : α → Ev K} {EX : Ex ε} {g : α → R ε β} (F : FunD K name qual params body scope dvs kws f fd) (S : FnScope (self :: N) ps scope) (En : Ent U N n ρ0) (hn : ps.length = n + 1)
    (hb : ∀ (p : Addr) (cdv : Value) (A : Around) (outer : List Env) (s : Shared) (H : Hp) (E : XK), Room k (A.deeper (envOfC qual scope s.heap.objs.size f cdv)) → ∀ a : α,
      ∃ (t : TS) (I : β → Oc K), DS (cxOf CX P w K mg base (self :: N) qual scope f cdv A outer s H E) ⟨EX, fun _ => E, nones (self :: N).length⟩ (some (.ow (cObjA p x [] tys0) ()) :: ρ0 a) body t I (g a) ∧ ∀ c, ∃ ρ' : Ev K, I c = .nx ρ' ∧ ρ'[0]? = some (some (.ow (cObjA p x fs W) c))) :
    FnOk P w K mg base CX (k + 1) f fd ps (spI EX x fs U W g) :=
  F.ok S (fun vs H Q E ⟨F, a, p, dx, rest, e0, _, _, _, _, _, _, r, _⟩ => by rw [e0, List.length_cons, En.len a F rest r, hn]) fun cdv A outer s H vs Q E hr ⟨F, a, p, dx, rest, e0, hp, fp, fdx, fh, tb, nt, r, h⟩ => by
    subst e0
    obtain ⟨t, I, D, hI⟩ := hb p cdv A outer s H E hr a
    refine ⟨t, D.ps, D.ev ⟨lessH H p, F⟩ F _ H _ (Sta.enterI En hp fp fdx fh tb nt r) ?_⟩
    cases e : g a with
    | ok c =>
      rw [e] at h
      show (I c).Post _ _ _
      obtain ⟨ρ', z, hρ⟩ := hI c
      rw [z]
      intro F' σ' H' _ S'
      obtain ⟨v, e1, p', o, e2, h1, h2, h3, e3, h4⟩ := S'.sl 0 _ hρ
      subst e3
      exact h F' H' o S'.f0 S'.h0 S'.tb S'.fh S'.nw h2 h1 h4
    | exn e' =>
      rw [e] at h
      exact fun F' σ' cls od H' S' r n => h F' cls od H' S'.f0 S'.h0 S'.tb S'.fh S'.nw r n
    | bad => rw [e] at h; exact h.elim
end
section
variable {α β τ : Type} {X : Cx} {J : Jc X.K ε} {ρ : Ev X.K} {e : Expr} {es : List Expr} {t : TA} {p pos : Pos} {x : Str} {fs : List Str} {U : Tys X.K α} {W : Tys X.K β} {g : α → R ε β} {ma : R ε α} {CX : CXT} {k : Nat} {f : Addr} {fd : FuncData} {ps : List Str}
def tMakeG (C : Addr) (sp : Sp) (E : St → XK) (t : TA) : TE := fun σ H Q => t σ H fun vs H1 => ∀ x dx, H1 x = none → H1 dx = none → dx ≠ x →
  sp (.ref x :: vs) (upd (upd H1 dx (.own x)) x (.ins C dx [])) (fun v H2 => v = .non ∧ Q (.ref x) H2) (E σ)
theorem pe_makeG {C : Addr} {sp : Sp} {E : St → XK} (M : Mk X.K C f) (F : FnOk X.prog X.w X.K X.mg X.base CX k f fd ps sp) (hr : Room (k + 1) X.A) (hg : Gl X x) (hm : X.mg x = some (.ref C)) (hb : Binds X.K fd ps []) (hx : ∀ σ, PassesAt CX X σ (E σ))
    (ha : PA X (e :: es) t) (hdb : (x == ("__debug__" : Str)) = false := by decide) (he : starEach (e :: es) X.env = (false, eval e X.env) :: starEach es X.env := by rfl) (hpl : (backTo pos (starEach es X.env)).any (·.1) = false := by rfl) :
    PE X (.Call (.Name x p) (e :: es) [] pos) (tMakeG C sp E t) := by
  refine ⟨fun pins s σ H Q I h => ?_⟩
  refine wpAny_Call_Name_kw (ld_glob I hg hm ?_ hdb)
  refine PySem.W.callWith_K (h₀ := X.base) I.ok.mod.kin M.kp (thn (ha.run pos pins s σ H _ I h) fun us s1 ⟨vs, H1, I1, r, q⟩ => ⟨I1.kIn, ?_⟩) he hpl
  have hq := q (s1.heap.objs.size + 1) s1.heap.objs.size (I1.hok.fresh (Nat.le_succ _)) (I1.hok.fresh (Nat.le_refl _)) (Nat.ne_of_lt (Nat.lt_succ_self _))
  have I2 := Inv.made (C := C) I1
  have r2 : Vals (V.ref (s1.heap.objs.size + 1) :: vs) (Value.ref (s1.heap.objs.size + 1) :: us) := .cons rfl r
  have hl : (Value.ref (s1.heap.objs.size + 1) :: us).length = ps.length := by
    have e := r2.length
    rw [F.len _ _ _ _ hq] at e
    exact e.symm
  have hb2 := hb _ (Value.ref (s1.heap.objs.size + 1) :: us) I2.kIn (by rw [List.append_nil]; exact hl)
  rw [List.append_nil] at hb2
  refine wpAny_call (make_map (f := f) I1.kIn M.makes M.init (beq_iff_eq.mp M.fn) (codeAny_mono (F.run _ X.stack _ _ ⟨Value.ref (s1.heap.objs.size + 1) :: us, []⟩ (Value.ref (s1.heap.objs.size + 1) :: us) _ _ (E σ) (hr.make C us [])
    (I2.env0.make C us []) hb2 r2 hq) fun r s' hq' => ?_))
  cases r with
  | error e => exact hx σ pins _ _ e s' I2 hq'
  | ok fl =>
    cases fl with
    | ret u =>
      obtain ⟨v, H', I3, rv, ev, q3⟩ := I2.after hq'
      subst ev
      exact ⟨rv, ⟨V.ref (s1.heap.objs.size + 1), H', I3, rfl, q3⟩⟩
    | next => exact False.elim hq'
    | brk => exact False.elim hq'
    | cont => exact False.elim hq'
/-- C(..), what it is handed leant on -/
theorem de_make (M : Mk X.K (He.ga X.K x) f) (F : FnOk X.prog X.w X.K X.mg X.base CX k f fd ps (spI J.EX x fs U W g)) (hr : Room (k + 1) X.A) (hg : Gl X x) (hm : X.mg x = some (.ref (He.ga X.K x))) (hb : Binds X.K fd ps []) (hx : ∀ σ, PassesAt CX X σ (J.E σ))
    (ha : DAp X J ρ (e :: es) t U ma) (hw : Wk ρ J.eh) (hdb : (x == ("__debug__" : Str)) = false := by decide) (he : starEach (e :: es) X.env = (false, eval e X.env) :: starEach es X.env := by rfl) (hpl : (backTo pos (starEach es X.env)).any (·.1) = false := by rfl) :
    DE X J ρ (.Call (.Name x p) (e :: es) [] pos) (tMakeG (He.ga X.K x) (spI J.EX x fs U W g) J.E t) (rF (cObj x fs W)) (ma.bind g) :=
  ⟨pe_makeG M F hr hg hm hb hx ha.pa hdb he hpl, fun b F0 σ H Q S q => ha.ev.then_ S q fun a F1 vs H1 g1 S1 r1 q1 => by
    intro y dx ny nd ne
    have S2 : Sta b ρ (upd F1 dx (.own y)) σ (upd H1 dx (.own y)) := S1.new nd
    have G2 : Gr F1 H1 (upd F1 dx (.own y)) (upd H1 dx (.own y)) := Gr.new S1.fh nd
    have less : lessH (upd (upd H1 dx (.own y)) y (.ins (He.ga X.K x) dx [])) y = upd H1 dx (.own y) := by
      funext a
      by_cases h : a = y
      · subst h; rw [lessH_same, upd_ne (Ne.symm ne)]; exact ny.symm
      · rw [lessH_ne h, upd_ne h]
    have fy : upd F1 dx (.own y) y = none := by rw [upd_ne (Ne.symm ne)]; exact S1.freshF ny
    have ty : upd H1 dx (.own y) y = none := by rw [upd_ne (Ne.symm ne)]; exact ny
    have fh2 : Same (upd F1 dx (.own y)) (upd (upd H1 dx (.own y)) y (.ins (He.ga X.K x) dx [])) := S2.fh.trans (same_upd ty)
    refine ⟨upd F1 dx (.own y), a, y, dx, vs, rfl, upd_same, fy, upd_same, fh2, S2.tb.ext (same_upd ty), S2.nt, U.mono (same_upd (S1.freshF nd)) r1, ?_⟩
    revert q1
    generalize g a = z
    intro q1
    rw [less]
    cases z with
    | ok c =>
      intro F' H' o h1 h2 tb h3 h4 h5 h6 h7
      obtain ⟨g3, S3⟩ := call_on S2 h1 h2 tb h3 h4
      have hH : Sm H H1 := g1.h
      exact ⟨rfl, q1 F' _ H' (G2.trans g3) S3 ⟨y, o, rfl, ny, h6, h5, h7⟩⟩
    | exn e' =>
      intro F' cls od H' h1 h2 tb h3 h4 h5 hn
      obtain ⟨g3, S3⟩ := call_on S2 h1 h2 tb h3 h4
      exact q1 F' σ cls od H' (S3.wk hw) h5 fun d z => S2.freshB (hn d z)
    | bad => exact q1⟩
end
end Cp
namespace Cp
open PySem PySem.Spec L2
open PyProof.Rows hiding St
variable {K : PySem.W.Frag} {ε : Type}
section
variable {b : B} {ρ : Ev K} {F F' : Hp} {σ : L2.St} {H H' : Hp}
/-- an object that no slot owns is leant on from here -/
theorem Sta.lean_ {d : Addr} {o : HO} (S : Sta b ρ F σ H) (no : NoOw ρ) (hd : H d = some o) (hl : Lc o) (fd : F d = none) (bd : b.H0 d = none) : Sta b ρ (upd F d o) σ H where
  h0 := S.h0
  tb := S.tb
  nt := fun p hp => by
    obtain ⟨ps, e, _⟩ := S.tb p hp
    rw [upd_ne fun z => by rw [z, hd] at e; cases e; exact hl]
    exact S.nt p hp
  f0 := S.f0.trans (same_upd fd)
  fh := fun c u e => by
    by_cases hc : c = d
    · subst hc; rw [upd_same] at e; cases e; exact hd
    · rw [upd_ne hc] at e; exact S.fh _ _ e
  nw := fun c u e e' => by
    by_cases hc : c = d
    · subst hc; exact bd
    · rw [upd_ne hc] at e; exact S.nw _ _ e e'
  len := S.len
  sl := fun i s e => by
    obtain ⟨v, e1, a⟩ := S.sl i s e
    refine ⟨v, e1, ?_⟩
    cases s with
    | pl T a' => exact T.mono (same_upd fd) a
    | ow C a' => exact absurd (no i _ e) (by simp [Slt.isOw])
  ds := S.ds
/-- an object that no slot owns is changed -/
theorem Sta.updX {d : Addr} {o o' : HO} (S : Sta b ρ F σ H) (no : NoOw ρ) (hd : H d = some o) (hl : Lc o) (fd : F d = none) (bd : b.H0 d = none) : Sta b ρ F σ (upd H d o') where
  h0 := fun c u e => by rw [upd_ne (ne_of_none e bd)]; exact S.h0 _ _ e
  tb := S.tb.chg hd hl
  nt := S.nt
  f0 := S.f0
  fh := fun c u e => by rw [upd_ne (ne_of_none e fd)]; exact S.fh _ _ e
  nw := S.nw
  len := S.len
  sl := fun i s e => by
    obtain ⟨v, e1, a⟩ := S.sl i s e
    refine ⟨v, e1, ?_⟩
    cases s with
    | pl T a' => exact a
    | ow C a' => exact absurd (no i _ e) (by simp [Slt.isOw])
  ds := S.ds
/-- a slot owns what it names -/
theorem Sta.own {α : Type} {C : Ct K α} {a : α} {i : Nat} {p : Addr} {o : HO} (S : Sta b ρ F σ H) (no : NoOw ρ) (hs : σ[i]? = some (some (.ref p))) (hp : H p = some o) (fp : F p = none) (bp : b.H0 p = none) (r : C.obj a F p o) : Sta b (ρ.set i (some (.ow C a))) F σ H := by
  have S' := S.setO (C := C) (a := a) (i := i) hp fp bp r fun j s e z _ => by rw [no j s e] at z; cases z
  have e : σ.set i (some (.ref p)) = σ := by
    apply List.ext_getElem?
    intro j
    by_cases hj : i = j
    · subst hj
      rw [List.getElem?_set_self (List.getElem?_eq_some_iff.mp hs).1, hs]
    · rw [List.getElem?_set_ne hj]
  rw [e] at S'
  exact S'
/-- a slot whose value is known as an address alone -/
theorem Sta.asRef {i : Nat} {p : Addr} (S : Sta b ρ F σ H) (hs : σ[i]? = some (some (.ref p))) : Sta b (ρ.set i (some (.pl (yRef p) ()))) F σ H := by
  have S' := S.setP (T := yRef p) (a := ()) (i := i) (v := .ref p) rfl
  have e : σ.set i (some (.ref p)) = σ := by
    apply List.ext_getElem?
    intro j
    by_cases hj : i = j
    · subst hj
      rw [List.getElem?_set_self (List.getElem?_eq_some_iff.mp hs).1, hs]
    · rw [List.getElem?_set_ne hj]
  rw [e] at S'
  exact S'
end
section
variable {α β γ : Type} [DecidableEq α] [Inhabited α] [Inhabited β] {X : Cx} {J : Jc X.K ε} {ρ : Ev X.K} {p0 : Addr} {x f : Str} {fs : List Str} {W : Tys X.K γ} {a0 : γ} {T : Ty X.K α} {k : Ky X.K T} {U : Ty X.K β}
def mergeD (l1 l2 : List (α × β)) : R ε (List (α × β)) := forS (fun a s => (rGet l2 a).bind fun v => (rApp s (a, v)).bind fun c => .ok (dput s c.1 c.2)) (dkeys l2) l1
theorem ds_merge {eself e1 e2 vE kE oE pairE iterE fallsE : Expr} {pos1 pos1' pos2 pos3 pos4 p2 : Pos} {te1 te2 tv tk : TE} {wi : TI} {g2 g : TG} {jf jp : Nat} {m1 m2 : R ε (List (α × β))} {I : γ × List (α × β) → Oc X.K} {ρ3 eH : List (α × β) → Ev X.K} {ρ4 : List (α × β) → α → Ev X.K} {ix2 ix : List Nat}
    (hp : PassesOwn (model X.prog X.w) X.A X.env X.xe) (hcm : X.calm = true) (hu : X.A.units + 64 < cLine) (ar : AtRef T) (hkd : k.d ≤ 8)
    (cl : L2.Cls X.K (He.ga X.K x)) (na : NoAttr X.K (He.ga X.K x) f) (hn : f ∉ fs) (hnd : (fs ++ [f]).Nodup) (hl : fs.length < 900) (hs : PE X eself (tVar 0)) (h0 : ρ[0]? = some (some (.ow (cObjA p0 x fs W) a0)))
    (he1 : DE X J ρ e1 te1 (rF (cDic X.prog X.w k U)) m1)
    (hsw : swapsWith e1 (some (.Attribute eself f pos1')) pos1.line X.env = pure false)
    (no : NoOw (ρ.set 0 (some (.pl (yRef p0) ()))))
    (he2 : DE X J (ρ.set 0 (some (.pl (yRef p0) ()))) e2 te2 (rP (yDic X.prog X.w k U)) m2)
    (hg2 : DG X (ρ.set 0 (some (.pl (yRef p0) ()))) fallsE g2 (yDic X.prog X.w k U) ρ3 ix2)
    (ps2 : PS X (.Assign [fallsE] e2 pos2) (tAsg te2 g2))
    (no3 : ∀ l, NoOw (eH l)) (wk3 : ∀ l, Wk (ρ3 l) (eH l)) (z3 : ∀ l, (eH l)[0]? = some (some (.pl (yRef p0) ())))
    (hi : ∀ l, DI X J (eH l) pairE iterE wi T (.ok (dkeys l)))
    (hg : ∀ l, DG X (eH l) pairE g T (ρ4 l) ix) (no4 : ∀ l a, NoOw (ρ4 l a)) (z4 : ∀ l a, (ρ4 l a)[0]? = some (some (.pl (yRef p0) ()))) (wk4 : ∀ l a, Wk (ρ4 l a) (eH l))
    (hv : ∀ l a, DE X J (ρ4 l a) vE tv (rP U) (rGet l a)) (hk : ∀ l a, DE X J (ρ4 l a) kE tk (rP T) (.ok a))
    (psb : PS X (.Assign [.Subscript oE kE p2] vE pos3) (tAsg tv (gSub (tFld X.K (tVar 0) f) tk (rSetN X.prog X.w X.K))))
    (hI : ∀ c l, ∃ ρ', I c = .nx ρ' ∧ Wk ((eH l).set 0 (some (.ow (cObjA p0 x (fs ++ [f]) (tysL W (yDic X.prog X.w k U))) c))) ρ') :
    DS X J ρ [.Assign [.Attribute eself f pos1'] e1 pos1, .Assign [fallsE] e2 pos2, .For pairE iterE [.Assign [.Subscript oE kE p2] vE pos3] [] pos4]
      (tSeq (sFld X.K (tVar 0) te1 f) (tSeq (tAsg te2 g2) (tFor wi g (tAsg tv (gSub (tFld X.K (tVar 0) f) tk (rSetN X.prog X.w X.K)))))) I
      (m1.bind fun l1 => m2.bind fun l2 => (mergeD l1 l2).bind fun c => .ok (a0, c)) :=
  ⟨pss_cons (ps_fld hs he1.pe hsw) (pss_cons ps2 (pss_one (ps_for hp hcm (hi []).pi (hg []).pg (pss_one psb) (hi []).fs))), fun b F σ H D S q => he1.ev.thenS S q fun l1 F1 v1 H1 g1 S1 r1 q1 => by
    obtain ⟨d, od, e0, nd, hd1, fd1, rd⟩ := r1
    subst e0
    obtain ⟨w0, ew, pp, ob, ew2, hp1, fp1, bp1, epp, dxp, vs, eob, hdx, hlen, rW⟩ := S1.sl 0 _ h0
    subst ew2 epp eob
    have bd : b.H0 d = none := S.h0.free nd
    have nepd : pp ≠ d := by
      rintro rfl
      obtain ⟨w1, ew1, p1, o1, ew3, hh, _⟩ := S.sl 0 _ h0
      rw [ew] at ew1
      cases ew1
      cases ew3
      rw [nd] at hh; cases hh
    refine ⟨_, ew, pp, _, dxp, _, rfl, hp1, cl, na, by rw [List.length_zip]; omega, ?_⟩
    rw [put_zip hn hlen]
    -- the field is there
    have S2 : Sta b (ρ.set 0 (some (.pl (yRef pp) ()))) F1 σ (upd H1 pp (.ins (He.ga X.K x) dxp ((fs ++ [f]).zip (vs ++ [.ref d])))) := by
      have z := (S1.change (C' := cObjA pp x (fs ++ [f]) (tysL W (yRef d))) (a' := (a0, ())) (o' := .ins (He.ga X.K x) dxp ((fs ++ [f]).zip (vs ++ [.ref d]))) h0 ew ⟨rfl, dxp, vs ++ [.ref d], rfl, hdx, by rw [List.length_append, List.length_append, hlen]; rfl, vs, .ref d, rfl, rW, (show (yRef (K := X.K) d).rel () F1 (.ref d) from rfl)⟩).asRef ew
      rwa [List.set_set] at z
    have hp2 : (upd H1 pp (.ins (He.ga X.K x) dxp ((fs ++ [f]).zip (vs ++ [.ref d])))) pp = some (.ins (He.ga X.K x) dxp ((fs ++ [f]).zip (vs ++ [.ref d]))) := upd_same
    have hd2 : (upd H1 pp (.ins (He.ga X.K x) dxp ((fs ++ [f]).zip (vs ++ [.ref d])))) d = some od := by rw [upd_ne (Ne.symm nepd)]; exact hd1
    generalize (upd H1 pp (.ins (He.ga X.K x) dxp ((fs ++ [f]).zip (vs ++ [.ref d])))) = H2 at S2 hp2 hd2
    have lod : Lc od := (cDic X.prog X.w k U).mu rd
    refine he2.ev.thenS S2 q1 fun l2 F2 v2 H3 g2' S3 r2 q2 => hg2.ev b F2 σ H3 v2 l2 _ S3 r2 fun σ4 _ _ S4' => ?_
    have hp3 := g2'.h.at_ hp2 fun ps z => nomatch z
    have hd3 := g2'.h.at_ hd2 lod.nt
    have fp3 := g2'.n _ ⟨_, hp2⟩ fp1
    have fd3 := g2'.n _ ⟨_, hd2⟩ fd1
    have S4 := S4'.wk (wk3 l2)
    have rd3 := (cDic X.prog X.w k U).mono g2'.f rd
    have hdx3 := g2'.f _ _ hdx
    have rW3 := W.mono g2'.f rW
    -- the loop
    refine (hi l2).ev b F2 σ4 H3 _ S4 ?_
    intro F3 H4 It1 g3 S5 wk
    have hp4 := g3.h.at_ hp3 fun ps z => nomatch z
    have hd4 := g3.h.at_ hd3 lod.nt
    have fp4 := g3.n _ ⟨_, hp3⟩ fp3
    have fd4 := g3.n _ ⟨_, hd3⟩ fd3
    have q3 : PostS J b F3 D I ((forS (fun a s => (rGet l2 a).bind fun v => (rApp s (a, v)).bind fun c => .ok (dput s c.1 c.2)) (dkeys l2) l1).bind fun c => .ok (a0, c)) := PostS.later g3.f q2
    refine ⟨fun i m σ H => m = (dkeys l2).length - i ∧ i ≤ (dkeys l2).length ∧ ∃ F s o, Same F3 F ∧ Sta b (eH l2) F σ H ∧ H pp = some (.ins (He.ga X.K x) dxp ((fs ++ [f]).zip (vs ++ [.ref d]))) ∧ F pp = none ∧ H d = some o ∧ F d = none ∧ (cDic X.prog X.w k U).obj s F d o ∧
      PostS J b F D I ((forS (fun a s => (rGet l2 a).bind fun v => (rApp s (a, v)).bind fun c => .ok (dput s c.1 c.2)) ((dkeys l2).drop i) s).bind fun c => .ok (a0, c)), ⟨_, rfl, Nat.zero_le _, F3, l1, od, Same.refl _, S5, hp4, fp4, hd4, fd4, (cDic X.prog X.w k U).mono g3.f rd3, q3⟩, ?_⟩
    rintro i m σ5 H5 ⟨rfl, hil, F5, s, o5, sf5, S6, hp5, fp5, hd5, fd5, rd5, q5⟩
    obtain ⟨wgo, wst⟩ := wk i F5 H5 sf5 S6.fh
    have lo5 : Lc o5 := (cDic X.prog X.w k U).mu rd5
    by_cases hlt : i < (dkeys l2).length
    · obtain ⟨go, yld⟩ := wgo hlt
      rw [List.drop_eq_getElem_cons hlt] at q5
      refine .inr ⟨go, fun σ' H' => ∃ F s o, Same F3 F ∧ Sta b (eH l2) F σ' H' ∧ H' pp = some (.ins (He.ga X.K x) dxp ((fs ++ [f]).zip (vs ++ [.ref d]))) ∧ F pp = none ∧ H' d = some o ∧ F d = none ∧ (cDic X.prog X.w k U).obj s F d o ∧
        PostS J b F D I ((forS (fun a s => (rGet l2 a).bind fun v => (rApp s (a, v)).bind fun c => .ok (dput s c.1 c.2)) ((dkeys l2).drop (i + 1)) s).bind fun c => .ok (a0, c)), fun σ' H' h => ⟨(dkeys l2).length - (i + 1), by omega, rfl, hlt, h⟩, fun y H6 yl => ?_⟩
      obtain ⟨sy, F6, g6, fh6, r6⟩ := yld y H6 yl
      have S7 := g6.sta S6 (S6.tb.ext sy) fh6
      have hp6 := g6.h.at_ hp5 fun ps z => nomatch z
      have hd6 := g6.h.at_ hd5 lo5.nt
      have fp6 := g6.n _ ⟨_, hp5⟩ fp5
      have fd6 := g6.n _ ⟨_, hd5⟩ fd5
      have rd6 := (cDic X.prog X.w k U).mono g6.f rd5
      refine (hg l2).ev b F6 σ5 H6 y _ _ S7 r6 fun σ7 _ _ S8 => ?_
      have q6 : PostS J b F6 D I (((rGet l2 (dkeys l2)[i]).bind fun v => (rApp s ((dkeys l2)[i], v)).bind fun c => R.ok (dput s c.1 c.2)).bind fun s' => (forS (fun a s => (rGet l2 a).bind fun v => (rApp s (a, v)).bind fun c => .ok (dput s c.1 c.2)) ((dkeys l2).drop (i + 1)) s').bind fun c => .ok (a0, c)) := by
        have := PostS.later g6.f q5
        unfold forS at this
        rw [R.bind_assoc] at this
        exact this
      rw [R.bind_assoc] at q6
      refine (hv l2 _).ev.thenS S8 q6 fun vv F7 v7 H7 g7 S9 r7 q7 => ?_
      have hp7 := g7.h.at_ hp6 fun ps z => nomatch z
      have hd7 := g7.h.at_ hd6 lo5.nt
      have fp7 := g7.n _ ⟨_, hp6⟩ fp6
      have fd7 := g7.n _ ⟨_, hd6⟩ fd6
      have rd7 := (cDic X.prog X.w k U).mono g7.f rd6
      obtain ⟨w7, ew7, ew8⟩ := S9.sl 0 _ (z4 l2 _)
      have ew8 : w7 = .ref pp := ew8
      subst ew8
      refine ⟨_, ew7, pp, _, dxp, _, .ref d, rfl, hp7, cl, na, ?_, ?_⟩
      · rw [zip_look hnd (i := fs.length) (by rw [List.getElem?_append_right (Nat.le_refl _), Nat.sub_self]; rfl) (by rw [List.length_append, List.length_append, hlen]; rfl), ← hlen, List.getElem?_append_right (Nat.le_refl _), Nat.sub_self]
        rfl
      · have q7' : PostS J b F7 D I ((R.ok (dkeys l2)[i]).bind fun kk => ((rApp s (kk, vv)).bind fun c => R.ok (dput s c.1 c.2)).bind fun s' => (forS (fun a s => (rGet l2 a).bind fun v => (rApp s (a, v)).bind fun c => .ok (dput s c.1 c.2)) ((dkeys l2).drop (i + 1)) s').bind fun c => .ok (a0, c)) := q7
        refine (hk l2 _).ev.thenS S9 q7' fun kk F8 u8 H8 g8 S10 r8 q8 => ?_
        have hp8 := g8.h.at_ hp7 fun ps z => nomatch z
        have hd8 := g8.h.at_ hd7 lo5.nt
        have fp8 := g8.n _ ⟨_, hp7⟩ fp7
        have fd8 := g8.n _ ⟨_, hd7⟩ fd7
        obtain ⟨xs, ob5, eo5, rp⟩ := (cDic X.prog X.w k U).mono g8.f rd7
        subst eo5
        obtain ⟨kq, h3, h4⟩ := key_at (k := k) ar hkd S10.fh r8
        subst h3
        unfold rApp at q8
        by_cases hz : s.length < sizeLine
        · rw [if_pos hz] at q8
          refine ⟨d, xs, k.key kk, kq, rfl, rfl, ⟨⟨ob5, hd8⟩, er_keys rp hkd S10.fh⟩, h4, by rw [Paired.length rp]; exact hz, fun o' => ?_⟩
          have S11 := (S10.wk (wk4 l2 _)).updX (o' := dN X.prog X.w d (stN xs (k.key kk) kq v7) o') (no3 l2) hd8 lo5 fd8 bd
          exact ⟨F8, dput s kk vv, _, ((sf5.trans g6.f).trans g7.f).trans g8.f, S11, by rw [upd_ne nepd]; exact hp8, fp8, upd_same, fd8, ⟨_, o', rfl, er_put rp r8 (U.mono g8.f r7)⟩, q8⟩
        · rw [if_neg hz] at q8; exact q8.elim
    · have e : i = (dkeys l2).length := by omega
      subst e
      rw [List.drop_length] at q5
      refine .inl ⟨wst (Nat.le_refl _), ?_⟩
      have q5 : (I (a0, s)).Post b F5 D := q5
      obtain ⟨ρ', eI, wI⟩ := hI (a0, s) l2
      rw [eI] at q5
      have S7 := S6.lean_ (no3 l2) hd5 lo5 fd5 bd
      obtain ⟨w7, ew7, ew8⟩ := S7.sl 0 _ (z3 l2)
      have ew8 : w7 = .ref pp := ew8
      subst ew8
      have sfd : Same F5 (upd F5 d o5) := same_upd fd5
      refine q5 (upd F5 d o5) σ5 H5 sfd (Sta.wk (S7.own (C := cObjA pp x (fs ++ [f]) (tysL W (yDic X.prog X.w k U))) (a := (a0, s)) (no3 l2) ew7 hp5 (by rw [upd_ne nepd]; exact fp5) bp1 ⟨rfl, dxp, vs ++ [.ref d], rfl, sfd _ _ (sf5 _ _ (g3.f _ _ hdx3)), by rw [List.length_append, List.length_append, hlen]; rfl, vs, _, rfl, W.mono ((g3.f.trans sf5).trans sfd) rW3, d, o5, rfl, upd_same, (cDic X.prog X.w k U).mono sfd rd5⟩) wI)⟩
end
end Cp
namespace Cp
open PySem PySem.Spec L2
open PyProof.Rows hiding St
variable {K : PySem.W.Frag} {ε : Type}
def noOwB (ρ : Ev K) : Bool := ρ.all fun s => match s with
  | some s => !s.isOw
  | none => true
theorem noOw_of {ρ : Ev K} (h : noOwB ρ = true) : NoOw ρ := fun i s e => by
  have := List.all_eq_true.mp h _ (List.mem_of_getElem? e)
  simpa using this
/-- an __init__ as the others see it -/
structure Mkr (P : Program) (w : World) (K : PySem.W.Frag) (mg : Str → Option Value) (base : Heap) (CX : CXT) (k : Nat) (x : Str) (ps : List Str) (sp : Sp) where
  f : Addr
  fd : FuncData
  ok : FnOk P w K mg base CX k f fd ps sp
  mkr : Mk K (He.ga K x) f
  mg : mg x = some (.ref (He.ga K x))
  bd : Binds K fd ps []
section
variable {α β γ : Type} {X : Cx} {J : Jc X.K ε} {ρ : Ev X.K} {e o : Expr} {es : List Expr} {to te : TE} {t : TA} {p pos apos : Pos} {x m : Str} {fs ps : List Str} {W : Tys X.K α} {U : Tys X.K β} {k : Nat} {CX : CXT} {mo : R ε α} {ma : R ε β}
theorem de_mk {g : β → R ε α} (c : Mkr X.prog X.w X.K X.mg X.base CX k x ps (spI J.EX x fs U W g)) (hr : Room (k + 1) X.A) (hg : Gl X x) (hx : ∀ σ, PassesAt CX X σ (J.E σ)) (ha : DAp X J ρ (e :: es) t U ma) (hw : Wk ρ J.eh)
    (hdb : (x == ("__debug__" : Str)) = false := by decide) (he : starEach (e :: es) X.env = (false, eval e X.env) :: starEach es X.env := by rfl) (hpl : (backTo pos (starEach es X.env)).any (·.1) = false := by rfl) :
    DE X J ρ (.Call (.Name x p) (e :: es) [] pos) (tMakeG (He.ga X.K x) (spI J.EX x fs U W g) J.E t) (rP (yObj x fs W)) (ma.bind g) :=
  DE.fp (de_make c.mkr c.ok hr hg c.mg c.bd hx ha hw hdb he hpl) fun h => h
variable {gm : α × β → R ε γ} {pl : Sem Bool}
theorem de_mPF {C : Ct X.K γ} (c : Met X.prog X.w X.K X.mg X.base CX k x m ps (spD J.EX (tysC (yObj x fs W) U) (qF C) gm)) (hr : Room k X.A) (hx : ∀ σ, PassesAt CX X σ (J.E σ)) (hm : m ∉ fs) (ho : DE X J ρ o to (rP (yObj x fs W)) mo) (ha : DAp X J ρ (e :: es) t U ma) (hw : Wk ρ J.eh)
    (hst : starEach (e :: es) X.env = (false, eval e X.env) :: starEach es X.env := by rfl) (hpl : (backTo pos (starEach es X.env)).any (·.1) = false := by rfl)
    (ht : eval (.Call (.Attribute o m apos) (e :: es) [] pos) X.env = (do
      let ov ← eval o X.env
      standAt apos.atName
      let (f, first) ← holding [ov] (getMethod ov m pl)
      callWith pos f first (backTo pos (starEach (e :: es) X.env)) (backToKw pos (keywordEach [] X.env))) := by rfl) :
    DE X J ρ (.Call (.Attribute o m apos) (e :: es) [] pos) (tMethG (He.ga X.K x) m (spD J.EX (tysC (yObj x fs W) U) (qF C) gm) J.E to t) (rF C) (mo.bind fun a => ma.bind fun c => gm (a, c)) :=
  de_methPF (pe_methG ho.pe c.cl c.me c.ok hr c.bd hx ha.pa hst hpl ht) hm ho ha hw
theorem de_mB {T : Ty X.K γ} (c : Met X.prog X.w X.K X.mg X.base CX k x m ps (spD J.EX (tysC (yObj x fs W) U) (qP T) gm)) (hr : Room k X.A) (hx : ∀ σ, PassesAt CX X σ (J.E σ)) (hm : m ∉ fs) (ho : DE X J ρ o to (rP (yObj x fs W)) mo) (ha : DA X J ρ (e :: es) t U ma) (hi : T.imm) (hw : Wk ρ J.eh)
    (hst : starEach (e :: es) X.env = (false, eval e X.env) :: starEach es X.env := by rfl) (hpl : (backTo pos (starEach es X.env)).any (·.1) = false := by rfl)
    (ht : eval (.Call (.Attribute o m apos) (e :: es) [] pos) X.env = (do
      let ov ← eval o X.env
      standAt apos.atName
      let (f, first) ← holding [ov] (getMethod ov m pl)
      callWith pos f first (backTo pos (starEach (e :: es) X.env)) (backToKw pos (keywordEach [] X.env))) := by rfl) :
    DE X J ρ (.Call (.Attribute o m apos) (e :: es) [] pos) (tMethG (He.ga X.K x) m (spD J.EX (tysC (yObj x fs W) U) (qP T) gm) J.E to t) (rP T) (mo.bind fun a => ma.bind fun c => gm (a, c)) :=
  de_methB (pe_methG ho.pe c.cl c.me c.ok hr c.bd hx ha.pa hst hpl ht) hm ho ha hi hw
theorem de_mBF {C : Ct X.K γ} (c : Met X.prog X.w X.K X.mg X.base CX k x m ps (spD J.EX (tysC (yObj x fs W) U) (qF C) gm)) (hr : Room k X.A) (hx : ∀ σ, PassesAt CX X σ (J.E σ)) (hm : m ∉ fs) (ho : DE X J ρ o to (rP (yObj x fs W)) mo) (ha : DA X J ρ (e :: es) t U ma) (hi : C.imm) (hw : Wk ρ J.eh)
    (hst : starEach (e :: es) X.env = (false, eval e X.env) :: starEach es X.env := by rfl) (hpl : (backTo pos (starEach es X.env)).any (·.1) = false := by rfl)
    (ht : eval (.Call (.Attribute o m apos) (e :: es) [] pos) X.env = (do
      let ov ← eval o X.env
      standAt apos.atName
      let (f, first) ← holding [ov] (getMethod ov m pl)
      callWith pos f first (backTo pos (starEach (e :: es) X.env)) (backToKw pos (keywordEach [] X.env))) := by rfl) :
    DE X J ρ (.Call (.Attribute o m apos) (e :: es) [] pos) (tMethG (He.ga X.K x) m (spD J.EX (tysC (yObj x fs W) U) (qF C) gm) J.E to t) (rF C) (mo.bind fun a => ma.bind fun c => gm (a, c)) :=
  de_methBF (pe_methG ho.pe c.cl c.me c.ok hr c.bd hx ha.pa hst hpl ht) hm ho ha hi hw
end
section
variable {α β γ : Type} [DecidableEq α] [Inhabited α] [Inhabited β] {X : Cx} {J : Jc X.K ε} {ρ : Ev X.K} {p0 : Addr} {x f : Str} {fs : List Str} {W : Tys X.K γ} {a0 : γ} {T : Ty X.K α} {k : Ky X.K T} {U : Ty X.K β}
theorem ds_mergeN {eself e1 e2 self2 : Expr} {xf xp : Str} {pos1 pos1' pos2 pos3 pos4 p2 p3 p4 p5 p6 p7 p8 p9 p10 : Pos} {te1 te2 : TE} {jf jp : Nat} {m1 m2 : R ε (List (α × β))} {I : γ × List (α × β) → Oc X.K} {ρ2 : Ev X.K} {ρ3 eH : List (α × β) → Ev X.K} {ρ4 : List (α × β) → α → Ev X.K}
    (hN : X.N.Nodup) (hjf : X.N[jf]? = some xf) (hlf : Loc X.env.scope xf) (hjp : X.N[jp]? = some xp) (hlp : Loc X.env.scope xp)
    (hp : PassesOwn (model X.prog X.w) X.A X.env X.xe) (hcm : X.calm = true) (hu : X.A.units + 64 < cLine) (ar : AtRef T) (hkd : k.d ≤ 8)
    (cl : L2.Cls X.K (He.ga X.K x)) (na : NoAttr X.K (He.ga X.K x) f) (hn : f ∉ fs) (hnd : (fs ++ [f]).Nodup) (hl : fs.length < 900) (hs : PE X eself (tVar 0)) (hs2 : PE X self2 (tVar 0)) (hpf : PE X (.Name xf p4) (tVar jf)) (hpf2 : PE X (.Name xf p5) (tVar jf)) (hpp : PE X (.Name xp p6) (tVar jp)) (hpp2 : PE X (.Name xp p7) (tVar jp))
    (h0 : ρ[0]? = some (some (.ow (cObjA p0 x fs W) a0)))
    (he1 : DE X J ρ e1 te1 (rF (cDic X.prog X.w k U)) m1)
    (no : NoOw ρ2) (he2 : DE X J ρ2 e2 te2 (rP (yDic X.prog X.w k U)) m2)
    (no3 : ∀ l, NoOw (eH l)) (wk3 : ∀ l, Wk (ρ3 l) (eH l)) (z3 : ∀ l, (eH l)[0]? = some (some (.pl (yRef p0) ()))) (zf : ∀ l, (eH l)[jf]? = some (some (.pl (yDic X.prog X.w k U) l)))
    (no4 : ∀ l a, NoOw (ρ4 l a)) (z4 : ∀ l a, (ρ4 l a)[0]? = some (some (.pl (yRef p0) ()))) (zf4 : ∀ l a, (ρ4 l a)[jf]? = some (some (.pl (yDic X.prog X.w k U) l))) (zp4 : ∀ l a, (ρ4 l a)[jp]? = some (some (.pl T a))) (wk4 : ∀ l a, Wk (ρ4 l a) (eH l))
    (hI : ∀ c l, ∃ ρ', I c = .nx ρ' ∧ Wk ((eH l).set 0 (some (.ow (cObjA p0 x (fs ++ [f]) (tysL W (yDic X.prog X.w k U))) c))) ρ')
    (er2 : ρ2 = ρ.set 0 (some (.pl (yRef p0) ())) := by rfl) (er3 : ∀ l, ρ3 l = ρ2.set jf (some (.pl (yDic X.prog X.w k U) l)) := by intro _; rfl) (er4 : ∀ l a, ρ4 l a = (eH l).set jp (some (.pl T a)) := by intro _ _; rfl)
    (hsw : swapsWith e1 (some (.Attribute eself f pos1')) pos1.line X.env = pure false := by rfl)
    (hsw2 : swapsWith e2 (some (.Name xf p3)) pos2.line X.env = pure false := by rfl) (hf2 : X.fn xf = true ∨ X.env.scope.names.lookup xf = some .local := by first | exact .inl rfl | exact .inr rfl)
    (hf3 : X.fn xp = true ∨ X.env.scope.names.lookup xp = some .local := by first | exact .inl rfl | exact .inr rfl)
    (fsi : ∀ y, foldedSetIterable (.Name xf p4) X.env y = pure y := by intro _; rfl)
    (hb : attributeBase self2 f X.env (eval self2 X.env) = eval self2 X.env := by rfl)
    (hs3 : swapsWithSole [.Subscript (.Attribute self2 f p8) (.Name xp p7) p2] (.Subscript (.Name xf p5) (.Name xp p6) p9) pos3.line X.env = pure false := by rfl) (hw3 : swappedStores [.Subscript (.Attribute self2 f p8) (.Name xp p7) p2] (.Subscript (.Name xf p5) (.Name xp p6) p9) X.env = pure none := by rfl) (h13 : (assignEach [.Subscript (.Attribute self2 f p8) (.Name xp p7) p2] X.env).map (·.2) = [assign (.Subscript (.Attribute self2 f p8) (.Name xp p7) p2) X.env] := by rfl)
    (hA : ∀ v, assign (.Subscript (.Attribute self2 f p8) (.Name xp p7) p2) X.env v = (do
      let ov ← holding [v] (eval (.Attribute self2 f p8) X.env)
      let iv ← holding [v, ov] (eval (.Name xp p7) X.env)
      standAt p2
      holding [v, ov, iv] (setItem ov iv v)
      release [v, ov, iv] []) := by intro _; rfl) :
    DS X J ρ [.Assign [.Attribute eself f pos1'] e1 pos1, .Assign [.Name xf p3] e2 pos2, .For (.Name xp p10) (.Name xf p4) [.Assign [.Subscript (.Attribute self2 f p8) (.Name xp p7) p2] (.Subscript (.Name xf p5) (.Name xp p6) p9) pos3] [] pos4]
      (tSeq (sFld X.K (tVar 0) te1 f) (tSeq (tAsg te2 (gName jf)) (tFor (iN X.prog X.w (tVar jf)) (gName jp) (tAsg (tGetN X.prog X.w X.K (tVar jf) (tVar jp)) (gSub (tFld X.K (tVar 0) f) (tVar jp) (rSetN X.prog X.w X.K)))))) I
      (m1.bind fun l1 => m2.bind fun l2 => (mergeD l1 l2).bind fun c => .ok (a0, c)) := by
  subst er2
  have hv : ∀ l a, DE X J (ρ4 l a) (.Subscript (.Name xf p5) (.Name xp p6) p9) (tGetN X.prog X.w X.K (tVar jf) (tVar jp)) (rP U) (rGet l a) := fun l a => de_getN (k := k) ar hu (de_var hpf2 (zf4 l a)) (de_var hpp (zp4 l a)) hkd
  have hk : ∀ l a, DE X J (ρ4 l a) (.Name xp p7) (tVar jp) (rP T) (.ok a) := fun l a => de_var hpp2 (zp4 l a)
  refine ds_merge (jf := jf) (jp := jp) (ρ3 := ρ3) (eH := eH) (ρ4 := ρ4) (ix2 := [jf]) (ix := [jp]) hp hcm hu ar hkd cl na hn hnd hl hs h0 he1 hsw no he2 ?_ (ps_set hN hjf hlf he2.pe hsw2 hf2) no3 wk3 z3 (fun l => (di_dict (de_var hpf (zf l)) fsi)) ?_ no4 z4 wk4 hv hk
    (ps_asg (hv [] default).pe (pg_sub (pe_fld hs2 hb) (hk [] default).pe (set_N hu) hA) hs3 hw3 h13) hI
  · have := dg_name (X := X) (ρ := ρ.set 0 (some (.pl (yRef p0) ()))) (T := yDic X.prog X.w k U) (pg_name (i := jf) (pos := p3) hN hjf hlf hf2)
    rw [show ρ3 = fun l => (ρ.set 0 (some (.pl (yRef p0) ()))).set jf (some (.pl (yDic X.prog X.w k U) l)) from funext er3]
    exact this
  · intro l
    have := dg_name (X := X) (ρ := eH l) (T := T) (pg_name (i := jp) (pos := p10) hN hjp hlp hf3)
    rw [show ρ4 l = fun a => (eH l).set jp (some (.pl T a)) from funext (er4 l)]
    exact this
end
end Cp
namespace Cp
open PySem PySem.Spec PySem.W PyProof L2
open PyProof.Rows hiding St
end Cp
namespace Cp
open PySem PySem.Spec L2 PySem.W PySem.Calls
open PyProof.Rows hiding St
end Cp
namespace Cp
open PySem PySem.Spec L2
open PyProof.Rows hiding St
end Cp
namespace Cp
open PySem PySem.Spec L2
open PyProof.Rows hiding St
end Cp
namespace Cp
open PySem PySem.Spec L2
open PyProof.Rows hiding St
end Cp
namespace Cp
open PySem PySem.Spec L2
open PyProof.Rows hiding St
open L2N (Zn)
open PySem.W (kitOne InstAt)
end Cp
namespace Cp
open PySem PySem.Spec L2
open PyProof.Rows hiding St
open L2N (Zn)
open PySem.W (kitOne kitAny InstAt)
end Cp
namespace Cp
open PySem PySem.Spec L2
open PyProof.Rows hiding St
end Cp
namespace Cp
open PySem PySem.Spec L2
open PyProof.Rows hiding St
variable {K : PySem.W.Frag} {ε : Type}
theorem FunD.weak {x qual : Str} {params : Arguments} {body : List Stmt} {scope : Scope} {dvs : List V} {kws : List (Str × V)} {f : Addr} {fd : FuncData} (F : FunD K x qual params body scope dvs kws f fd) : FunD K x qual params body scope dvs [] f fd :=
  ⟨by
    obtain ⟨oc, od, dV, kV, doc, pm, an, cdv, ct, osl, h1, h2, h3, h4, h5⟩ := F.ex
    exact ⟨oc, od, dV, kV, doc, pm, an, cdv, ct, osl, h1, h2, h3, h4, .inl rfl⟩, F.kp⟩
end Cp
namespace Cp
open PySem PySem.Spec L2
open PyProof.Rows hiding St
open L2H (HotC PIH)
end Cp
namespace Cp
open PySem PySem.Spec L2
open PyProof.Rows hiding St
end Cp
namespace Cp
open PySem PySem.Spec L2
open PyProof.Rows hiding St
end Cp
namespace Cp
open PySem PySem.Spec L2
open PyProof.Rows hiding St
end Cp
namespace Cp
open PySem PySem.Spec L2
open PyProof.Rows hiding St
end Cp
namespace Cp
open PySem PySem.Spec L2
open PyProof.Rows hiding St
variable {K : PySem.W.Frag} {ε : Type}
def Ty.nl {α : Type} (T : Ty K α) : Prop := ∀ {a : α} {F F' : Hp} {v : V}, (∀ p o, F p = some o → (∀ xs, o ≠ .lst xs) → F' p = some o) → T.rel a F v → T.rel a F' v
def Tys.nl {α : Type} (T : Tys K α) : Prop := ∀ {a : α} {F F' : Hp} {v : List V}, (∀ p o, F p = some o → (∀ xs, o ≠ .lst xs) → F' p = some o) → T.rel a F v → T.rel a F' v
section
variable {α β : Type}
theorem nl_imm {T : Ty K α} (i : T.imm) : T.nl := fun h r => i (fun p o e n => h p o e fun xs z => n (by subst z; trivial)) r
theorem nl_dic {P : Program} {w : World} {T : Ty K α} {k : Ky K T} {U : Ty K β} (i : T.imm) (j : U.imm) : (yDic P w k U).nl := fun h ⟨p, o, e, q, xs, ob, z, r⟩ => by
  subst z
  exact ⟨p, _, e, h _ _ q (fun _ z => by unfold dN at z; cases z), xs, ob, rfl, Paired.mapP r fun x a y => ⟨y.1, nl_imm i h y.2.1, nl_imm j h y.2.2⟩⟩
theorem nl_obj {x : Str} {fs : List Str} {W : Tys K α} (j : W.nl) : (yObj x fs W).nl := fun h ⟨p, o, e, q, dx, vs, z, y, l, r⟩ => by
  subst z
  exact ⟨p, _, e, h _ _ q (fun _ z => by cases z), dx, vs, rfl, h _ _ y (fun _ z => by cases z), l, j h r⟩
theorem nl_L {U : Tys K α} {T : Ty K β} (j : U.nl) (i : T.nl) : (tysL U T).nl := fun h ⟨vs, v, e, q, r⟩ => ⟨vs, v, e, j h q, i h r⟩
theorem nl_0 : (tys0 (K := K)).nl := fun _ r => r
end
end Cp
namespace Cp
open PySem PySem.Spec L2
open PyProof.Rows hiding St
open L2H (HotC PIH)
variable {K : PySem.W.Frag} {ε : Type}
section
variable {X : Cx} {J : Jc X.K ε} {ρ : Ev X.K} {e e' : Expr} {t t' : TE} {μ ν : Md} {pos : Pos}
theorem dq_notB {ma mb : R ε Bool} (ha : DE X J ρ e t (rV μ yBl) ma) (hb : DE X J ρ e' t' (rV ν yBl) mb) : DQ X J ρ (.Compare e [.IsNot] [e'] pos) (tOp rNotB t t') (ma.bind fun a => mb.bind fun c => .ok (!decide (a = c))) :=
  dq_cmp op_notBl (nomark _) ha hb fun b F σ H x y v w Q S r1 r2 q => by
    cases r1; cases r2
    exact ⟨x, y, rfl, rfl, PostE.here q S rfl⟩
end
end Cp
namespace Cp
open PySem PySem.Spec L2
open PyProof.Rows hiding St
end Cp
namespace L2
open PySem PySem.Spec PyProof.Rows
section
variable {P : Program} {w : World} {A : Around} {E : Value → Shared → Prop} {s : Shared} {a : Addr} {L : List (Addr × List Int)} {es : Array (Int × Value)} {ep : Nat} {t : SetTable}
theorem setFindIn_succ (a : Addr) (x : Value) (h : Int) (fuel : Nat) : setFindIn a x h (fuel + 1) = (do
    let (es, _, _) ← setState a
    if byScan x es then
      rule "set.find.by-scan"
      match ← setScan a x h false es with
      | .found i => return some i
      | .absent => return none
      | .anew => return ← setFindIn a x h fuel
    match ← setSearch a x h with
    | .there i => return i
    | .free .. => return none) := by rfl
/-- the search as asking for it: from the c-th step of the way on -/
theorem find_from (R : SetTR P w s.heap a L es ep t) {x : Addr} {k : List Int} (hx : IsT P w s.heap k x) (hu : A.units < cLine) {K : Nat} (hKf : K < 10 * SetTable.turns t.mask)
    (hK : way t.mask (thash P w k) K ∉ t.place.toList) (hKb : ∀ c, c < K → way t.mask (thash P w k) c ∈ t.place.toList) {Q : SetFound → Shared → Prop}
    (hin : ∀ i, k ∈ L.map (·.2) → Q (.there (some i)) s) (hout : k ∉ L.map (·.2) → Q (.free (way t.mask (thash P w k) K) false) s) :
    ∀ (f c : Nat) (stand : Option SetTable.Probe), stand.getD (t.probeStart (thash P w k)) = nth t.mask (runAt t.mask (SetTable.bits (thash P w k) % (t.mask + 1)) (SetTable.bits (thash P w k))) c → c ≤ K → K - c < f →
      (∀ (i : Nat) p, L[i]? = some p → p.2 = k → ∃ c', c ≤ c' ∧ c' < K ∧ t.place.toList[i]? = some (way t.mask (thash P w k) c')) →
      wpAny (model P w) A (setSearchFrom a (.ref x) (thash P w k) false f stand) Q E s
  | 0, c, stand, _, _, hf, _ => absurd hf (Nat.not_lt_zero _)
  | f + 1, c, stand, hst, hc, hf, hre => by
    obtain ⟨o, ho, hex, hd⟩ := R.ob
    rw [setSearchFrom_succ]
    refine wpAny_bind (wpAny_setState_of ho hd R.fits ?_)
    dsimp only
    refine wp_if_neg R.gw ?_
    try refine wpAny_bind (wpAny_pure ?_)
    have hnd : (nth t.mask (runAt t.mask (SetTable.bits (thash P w k) % (t.mask + 1)) (SetTable.bits (thash P w k))) c).dummy = none := by
      have key : ∀ (n : Nat) (p : SetTable.Probe), p.dummy = none → (nth t.mask p n).dummy = none := by
        intro n
        induction n with
        | zero => intro p h; exact h
        | succ n ih =>
          intro p h
          refine ih (adv t.mask p) ?_
          unfold adv
          split <;> exact h
      exact key c _ rfl
    have sh : ∀ q, nth t.mask (nth t.mask (runAt t.mask (SetTable.bits (thash P w k) % (t.mask + 1)) (SetTable.bits (thash P w k))) c) q = nth t.mask (runAt t.mask (SetTable.bits (thash P w k) % (t.mask + 1)) (SetTable.bits (thash P w k))) (c + q) := fun q => (nth_add t.mask c _ q).symm
    have e1 : ∀ q, (nth t.mask (nth t.mask (runAt t.mask (SetTable.bits (thash P w k) % (t.mask + 1)) (SetTable.bits (thash P w k))) c) q).j = way t.mask (thash P w k) (c + q) := fun q => congrArg SetTable.Probe.j (sh q)
    have spec := go_spec t R.tab.ris R.tab.dm (fun i => (es[i]?.map (·.1)).getD 0) (thash P w k) (10 * SetTable.turns t.mask) (K - c) _ hnd (by omega)
      (fun q hq => by rw [e1]; exact hKb (c + q) (by omega)) (by rw [e1, show c + (K - c) = K by omega]; exact hK)
    have hashAt : ∀ (i : Nat) p, L[i]? = some p → (fun i => (es[i]?.map (·.1)).getD 0) i = thash P w p.2 := fun i p hp => by
      show (es[i]?.map (·.1)).getD 0 = _
      rw [R.entry hp] <;> rfl
    rcases spec with ⟨q, i, hq, hi, hh, hno, hpr⟩ | ⟨hno, hpr⟩
    · -- a candidate
      have hpr' : t.probe (fun i => (es[i]?.map (·.1)).getD 0) (thash P w k) (stand.getD (t.probeStart (thash P w k))) = some (.candidate (way t.mask (thash P w k) (c + q)) i (nth t.mask (runAt t.mask (SetTable.bits (thash P w k) % (t.mask + 1)) (SetTable.bits (thash P w k))) (c + (q + 1)))) := by
        rw [hst, ← e1, ← sh]
        exact hpr
      rw [hpr']
      dsimp only
      rw [e1] at hi
      -- the entry
      have hil : i < L.length := by
        have h1 : i < t.place.toList.length := (List.getElem?_eq_some_iff.mp hi).1
        have h2 := R.tab.sz
        rw [List.length_map] at h2
        rw [Array.length_toList] at h1
        omega
      have hp : L[i]? = some L[i] := List.getElem?_eq_getElem hil
      generalize hpe : L[i] = p at hp
      have hmem : p ∈ L := List.mem_of_getElem? hp
      have hpt := R.tup p hmem
      have rest : wpAny (model P w) A (searchRest a (.ref x) (thash P w k) false f es t (way t.mask (thash P w k) (c + q)) i (nth t.mask (runAt t.mask (SetTable.bits (thash P w k) % (t.mask + 1)) (SetTable.bits (thash P w k))) (c + (q + 1)))) Q E s := by
        unfold searchRest
        rw [R.entry hp]
        dsimp only
        refine wpAny_bind (wpAny_holding (wpAny_eqBool_tuple hu hpt hx ?_))
        refine wpAny_bind (wpAny_setState_of ho hd R.fits ?_)
        dsimp only
        refine wp_if_neg (by simp) ?_
        try refine wpAny_bind (wpAny_pure ?_)
        by_cases hkk : p.2 = k
        · rw [sameMem]
          dsimp only
          have hsl : t.slot (way t.mask (thash P w k) (c + q)) = .live i := slot_live R.tab.ris hi
          simp only [if_true, hsl, R.entry hp]
          refine wpAny_bind (wpAny_isSame_ref_self (wpAny_bind (wpAny_pure ?_)))
          simp only [if_true]
          refine wp_if_pos (by simp [hkk]) ?_
          exact wpAny_pure (hin _ (List.mem_map.mpr ⟨p, hmem, hkk⟩))
        · rw [sameMem]
          dsimp only
          have hsl : t.slot (way t.mask (thash P w k) (c + q)) = .live i := slot_live R.tab.ris hi
          simp only [if_true, hsl, R.entry hp]
          refine wpAny_bind (wpAny_isSame_ref_self (wpAny_bind (wpAny_pure ?_)))
          simp only [if_true]
          refine wp_if_neg (by simp [hkk]) ?_
          refine find_from R hx hu hKf hK hKb hin hout f (c + (q + 1)) _ rfl (by omega) (by omega) fun i0 p0 h0 hk0 => ?_
          obtain ⟨c', a1, a2, a3⟩ := hre i0 p0 h0 hk0
          refine ⟨c', ?_, a2, a3⟩
          -- it isn't passed
          rcases Nat.lt_or_ge c' (c + q) with z | z
          · exfalso
            refine hno (c' - c) i0 (by omega) (by rw [e1, show c + (c' - c) = c' by omega]; exact a3) ?_
            exact (hashAt i0 p0 h0).trans (congrArg (thash P w) hk0)
          · rcases Nat.lt_or_ge (c + q) c' with y | y
            · omega
            · exfalso
              have ec : c' = c + q := Nat.le_antisymm y z
              rw [ec] at a3
              have s0 := slot_live R.tab.ris a3
              rw [hsl] at s0
              injection s0 with s0
              rw [← s0, hp] at h0
              exact hkk ((congrArg Prod.snd (Option.some.inj h0)).trans hk0)
      by_cases hl : t.led = true
      · refine wp_if_neg (by simp [hl]) ?_
        try refine wpAny_bind (wpAny_pure ?_)
        exact rest
      · refine wp_if_pos (by simp [hl]) ?_
        refine wpAny_bind (seen_tup hx (fun y hy => ?_) ?_)
        · obtain ⟨e, he, ee⟩ := List.mem_map.mp hy
          have he1 : e ∈ es ∧ e.1 = thash P w k := by simpa using he
          have he2 : e ∈ es.toList := by simpa using he1.1
          rw [R.rows] at he2
          obtain ⟨p2, hp2, e2⟩ := List.mem_map.mp he2
          refine ⟨p2.2, p2.1, ?_, R.tup p2 hp2⟩
          rw [← ee, ← e2]
        · refine wp_if_neg (by decide) ?_
          try refine wpAny_bind (wpAny_pure ?_)
          exact rest
    · -- the empty slot
      have hpr' : t.probe (fun i => (es[i]?.map (·.1)).getD 0) (thash P w k) (stand.getD (t.probeStart (thash P w k))) = some (.empty (way t.mask (thash P w k) K) none) := by
        have e2 : way t.mask (thash P w k) K = (nth t.mask (nth t.mask (runAt t.mask (SetTable.bits (thash P w k) % (t.mask + 1)) (SetTable.bits (thash P w k))) c) (K - c)).j := by
          rw [e1, show c + (K - c) = K by omega]
        rw [hst, e2]
        exact hpr
      rw [hpr']
      dsimp only
      refine wpAny_pure (hout fun hm => ?_)
      obtain ⟨p0, h0, hk0⟩ := List.mem_map.mp hm
      obtain ⟨i0, hi0, e0⟩ := List.getElem_of_mem h0
      have h00 : L[i0]? = some p0 := by rw [List.getElem?_eq_getElem hi0, e0]
      obtain ⟨c', a1, a2, a3⟩ := hre i0 p0 h00 hk0
      refine hno (c' - c) i0 (by omega) (by rw [e1, show c + (c' - c) = c' by omega]; exact a3) ?_
      exact (hashAt i0 p0 h00).trans (congrArg (thash P w) hk0)
/-- x in the set -/
theorem find_at (R : SetTR P w s.heap a L es ep t) {x : Addr} {k : List Int} (hx : IsT P w s.heap k x) (hu : A.units < cLine) {Q : Option Nat → Shared → Prop}
    (h : ∀ r, r.isSome = decide (k ∈ L.map (·.2)) → Q r s) : wpAny (model P w) A (setFind a (.ref x) (thash P w k)) Q E s := by
  obtain ⟨o, ho, hex, hd⟩ := R.ob
  have hroom := R.room
  obtain ⟨K, hKf, hK, hKb⟩ := R.tab.first (by rw [List.length_map]; omega) (thash P w k)
  have hbig : K < 100000 := by
    have : 10 * SetTable.turns t.mask ≤ 1420 := by
      unfold SetTable.turns
      rcases R.tab.mok with e | e | e <;> omega
    omega
  unfold setFind
  rw [show (100000 : Nat) = 99999 + 1 from rfl, setFindIn_succ]
  refine wpAny_bind (wpAny_setState_of ho hd R.fits ?_)
  dsimp only
  refine wp_if_neg (by simp [byScan, Value.scannable]) ?_
  try refine wpAny_bind (wpAny_pure ?_)
  refine wpAny_bind ?_
  unfold setSearch
  refine find_from R hx hu hKf hK hKb (fun i hm => ?_) (fun hn => ?_) 100000 0 none rfl (Nat.zero_le _) (by omega) fun i p hp hk => ?_
  · dsimp only
    exact wpAny_pure (h (some i) (by simp [hm]))
  · dsimp only
    exact wpAny_pure (h none (by simp [hn]))
  have hi : (L.map fun p => thash P w p.2)[i]? = some (thash P w k) := by rw [List.getElem?_map, hp, ← hk] <;> rfl
  have hil : i < t.place.toList.length := by
    have h1 : i < L.length := (List.getElem?_eq_some_iff.mp hp).1
    have h2 := R.tab.sz
    rw [List.length_map] at h2
    rw [Array.length_toList]
    omega
  have hj := List.getElem?_eq_getElem hil
  obtain ⟨c, hc, e⟩ := R.tab.before hK hi hj
  exact ⟨c, Nat.zero_le _, hc, by rw [hj, e]⟩
theorem notInT_at (R : SetTR P w s.heap a L es ep t) {x : Addr} {k : List Int} (hx : IsT P w s.heap k x) (hu : A.units + 3 < cLine) {Q : Value → Shared → Prop}
    (h : ∀ tk, Q (.bool (!decide (k ∈ L.map (·.2)))) { s with toks := tk }) : wpAny (model P w) A (compareOp .NotIn (.ref x) (.ref a)) Q E s := by
  obtain ⟨o, ho, hex, hd⟩ := R.ob
  have hT : s.TypeIs (.ref a) "set" := ⟨o, ho, hex.1⟩
  show wpAny _ _ (do return .bool (!(← contains (.ref a) (.ref x)))) Q E s
  refine wpAny_bind ?_
  unfold contains
  try with_reducible refine wpAny_holding ?_
  refine wpAny_bind (wpAny_specialOf hT F.slot_set_contains.lookup ?_)
  show wpAny _ _ (if (some (Value.builtin "set.__contains__") == some Value.none) = true then _ else _) _ E s
  rw [if_neg (by rw [beq_builtin_none]; exact Bool.false_ne_true)]
  refine wpAny_bind (wpAny_callSpecialUnlessNone?_slot (name := Str.ofString "__contains__") hT F.slot_set_contains
    (wpAny_call_entry F.slot_set_contains hT entry_set_contains ?_ (F.args_set_contains_2 _ _)))
  unfold Builtin.«frozenset.__contains__» Builtin.Frozenset.oneOther
  simp only [List.isEmpty_nil, bind_assoc]
  unfold Builtin.Frozenset.addrOf Builtin.Frozenset.withSetAsKey setContains
  refine wpAny_bind (wpAny_pure ?_)
  try dsimp only
  refine wpAny_bind (wpAny_pure ?_)
  try dsimp only
  refine wpAny_bind (wpAny_tryCatch ?_)
  refine wpAny_holding ?_
  refine wpAny_bind (wpAny_pyHash_tuple (by show A.units + 1 < cLine; omega) hx ?_)
  refine wpAny_bind (find_at (s := { s with toks := s.toks + (k.length + 1) }) R hx (by show A.units + 1 < cLine; omega) fun r hr => ?_)
  refine wpAny_pure ?_
  show wpAny _ _ (ret (Value.bool r.isSome)) _ _ _
  rw [hr]
  exact wpAny_pure ⟨_, rfl, wpAny_truthy_bool (wpAny_pure (h _))⟩
/-- s.add(x) -/
theorem addT_at (R : SetTR P w s.heap a L es ep t) {x : Addr} {k : List Int} (hx : IsT P w s.heap k x) (hu : A.units + 3 < cLine) (hfew : L.length + 1 < 64) {Q : Value → Shared → Prop}
    (hQ : ∀ tk h' L' es' ep' t', Heap.SameBut a s.heap h' → SetTR P w h' a L' es' ep' t' → (k ∈ L.map (·.2) → L' = L) → (k ∉ L.map (·.2) → L'.Perm ((x, k) :: L)) → Q .none { s with heap := h', toks := tk }) :
    wpAny (model P w) A (call (.builtin "set.add") [.ref a, .ref x]) Q E s := by
  obtain ⟨o, ho, hex, hd⟩ := R.ob
  have hT : s.TypeIs (.ref a) "set" := ⟨o, ho, hex.1⟩
  refine wpAny_call_entry F.slot_set_add hT F.entry_set_add ?_ (F.args_set_add_2 _ _)
  unfold Builtin.«set.add» Builtin.Frozenset.oneOther
  simp only [List.isEmpty_nil, bind_assoc]
  unfold Builtin.Frozenset.addrOf setAdd
  refine wpAny_bind (wpAny_pure ?_)
  try dsimp only
  refine wpAny_bind (wpAny_pure ?_)
  try dsimp only
  refine wpAny_bind ?_
  refine wpAny_holding ?_
  refine wpAny_bind (wpAny_pyHash_tuple (by show A.units + 1 < cLine; omega) hx ?_)
  refine add_at (s := { s with toks := s.toks + (k.length + 1) }) R hx (by show A.units + 1 < cLine; omega) hfew fun b h' L' es' ep' t' sb R' c1 c2 => ?_
  show wpAny _ _ (ret Value.none) _ _ _
  exact wpAny_pure ⟨_, rfl, hQ _ h' L' es' ep' t' sb R' c1 c2⟩
/-- set(t), t a tuple -/
theorem call_set_tupsT {l : Addr} {items : Array Value} (ks : List (Addr × List Int)) {Q : Value → Shared → Prop} (hh : A.handled = none) (hl : s.heap.IsTuple l items) (hit : items.toList = ks.map fun p => Value.ref p.1)
    (hk : ∀ p ∈ ks, IsT P w s.heap p.2 p.1) (hfew : ks.length < 64) (hu : A.units + 3 < cLine)
    (h : ∀ (h' : Heap) (tk : Nat) L es ep t, SetTR P w h' s.heap.objs.size L es ep t → Got ks ks.length L → (∀ b o, s.heap.get? b = some o → h'.get? b = some o) → Q (.ref s.heap.objs.size) { s with heap := h', toks := tk }) :
    wpAny (model P w) A (call (.type "set") [.ref l]) Q E s := by
  have hisz : items.size = ks.length := by
    have q := congrArg List.length hit
    rw [Array.length_toList, List.length_map] at q
    exact q
  obtain ⟨c, tl, hmro⟩ := F.called_set.mro
  have hmade := F.called_set.made
  have hsub := F.called_set.sub
  refine wpAny_call (codeAny_of_tree ?_)
  show wpAny _ _ (callAny (.type "set") _) _ _ _
  refine wpAny_pure ⟨Code.quiet_builtin _ (by decide +kernel), codeAny_builtin F.entry_type_call ?_⟩
  rw [Around.under_plain (weight_type_call_type "set" [.ref l] []) rfl]
  have h1 := F.called_set.notType
  have h2 := F.called_set.canCreate
  have hct := F.typeCall_set_1 (.ref l)
  repeat (any_goals (first | assumption | wp_step))

  refine codeAny_mono (code_set_led1 (.ref l) (E := E) (Q₁ := fun obj s₁ => obj = .ref s.heap.objs.size ∧ s₁ = { s with heap := s.heap.push { cls := .type "set", dict := none, data := .set #[] 0 (.fresh 0 0 (!w.params.followText "set-order")) } }) ⟨rfl, rfl⟩) fun r s₁ hr => ?_
  cases r with
  | error e => exact hr
  | ok fl =>
    cases fl with
    | ret obj =>
      obtain ⟨rfl, rfl⟩ := hr
      have hS : (s.heap.push { cls := .type "set", dict := none, data := .set #[] 0 (.fresh 0 0 (!w.params.followText "set-order")) }).get? s.heap.objs.size = some { cls := .type "set", dict := none, data := .set #[] 0 (.fresh 0 0 (!w.params.followText "set-order")) } := Heap.get?_push_size _ rfl
      have hT : Shared.TypeIs { s with heap := s.heap.push { cls := .type "set", dict := none, data := .set #[] 0 (.fresh 0 0 (!w.params.followText "set-order")) } } (.ref s.heap.objs.size) "set" := ⟨_, hS, rfl⟩
      have hli := F.called_set.init.lookup
      have hbi := F.called_set.init.bind (.ref s.heap.objs.size)
      repeat (any_goals (first | assumption | wp_step))

      refine codeAny_mono (codeAny_call_builtin (R := wants (fun r s₂ => r = .none ∧ ∃ h' tk L es ep t, s₂ = { s with heap := h', toks := tk } ∧ SetTR P w h' s.heap.objs.size L es ep t ∧ Got ks ks.length L ∧
          (∀ b o, s.heap.get? b = some o → h'.get? b = some o)) E) F.called_set.init.plain F.entry_set_init (check_set_init_1 hT ?_)) fun r₂ s₂ hr₂ => ?_
      · obtain ⟨ol, hol, hcl, nl, hdl⟩ := hl
        obtain ⟨ocls, odict, odata, oslots⟩ := ol
        simp only at hcl hdl
        subst hcl; subst hdl
        have hol' : (s.heap.push { cls := .type "set", dict := none, data := .set #[] 0 (.fresh 0 0 (!w.params.followText "set-order")) }).get? l = some { cls := .type "tuple", dict := odict, data := .seq items nl, slots := oslots } := Heap.get?_push_of_some _ hol
        have hsls := F.sub_tuple_set
        have hslf := F.sub_tuple_frozenset
        have hne : (Value.type "tuple" == Value.type "dict") = false := by decide
        have hl1 : (s.heap.push { cls := .type "set", dict := none, data := .set #[] 0 (.fresh 0 0 (!w.params.followText "set-order")) }).IsTuple l items := ⟨_, hol', rfl, nl, rfl⟩
        unfold Builtin.«set.__init__» noKeywords Builtin.Frozenset.updateFrom
        generalize hPI : pyIter = PI
        wp_walk
        subst hPI

        refine wpAny_pyIter_tuple hl1 ?_
        refine wpAny_bind (wpAny_runValue ?_)
        have hlS : l < s.heap.objs.size := Heap.lt_size hol
        have hh3 : A.in1.in1.in1.handled = none := by simp [hh]
        have hz1 : (s.heap.push { cls := .type "set", dict := none, data := .set #[] 0 (.fresh 0 0 (!w.params.followText "set-order")) }).objs.size = s.heap.objs.size + 1 := Heap.size_push ..
        have hneI : l ≠ (s.heap.push { cls := .type "set", dict := none, data := .set #[] 0 (.fresh 0 0 (!w.params.followText "set-order")) }).objs.size := by
          rw [Heap.size_push]; exact Nat.ne_of_lt (Nat.lt_succ_of_lt hlS)
        have hSf : s.heap.objs.size ∉ [(s.heap.push { cls := .type "set", dict := none, data := .set #[] 0 (.fresh 0 0 (!w.params.followText "set-order")) }).objs.size, l] := by
          rw [Heap.size_push]; simp only [List.mem_cons, List.mem_singleton, List.not_mem_nil, or_false, not_or]
          exact ⟨Nat.ne_of_lt (Nat.lt_succ_self _), Nat.ne_of_gt hlS⟩
        have hval : ∀ (i : Nat) (v : Value), items[i]? = some v → ∃ p, ks[i]? = some p ∧ v = .ref p.1 := fun i v hv => by
          have q : items.toList[i]? = some v := by rw [Array.getElem?_toList]; exact hv
          rw [hit, List.getElem?_map] at q
          cases hq : ks[i]? with
          | none => rw [hq] at q; cases q
          | some p =>
            rw [hq] at q
            exact ⟨p, rfl, (Option.some.inj q).symm⟩
        have none_of : ∀ b, s.heap.objs.size ≤ b → s.heap.get? b = none := fun b hb => by
          cases q : s.heap.get? b with
          | none => rfl
          | some o => exact absurd (Nat.lt_of_lt_of_le (Heap.lt_size q) hb) (Nat.lt_irrefl _)
        refine set_update_tups ((Walks.tuple hh3 _ l hneI items).toS) s.heap.objs.size
          hSf ks hisz hfew hval s.heap hk (none_of _ (Nat.le_refl _)) (fun b hb => none_of b (by
            rw [List.mem_singleton.mp hb, Heap.size_push]
            exact Nat.le_succ _)) hu (items.size - 0) 0 _ (by omega) (Nat.zero_le _)
          ⟨⟨_, Heap.get?_push_size _ rfl, rfl, rfl⟩, (hl1.push _)⟩ (fun b o e => Heap.get?_push_of_some _ (Heap.get?_push_of_some _ e)) ?hS0 ?hR
        case hS0 =>
          have hget : ((s.heap.push { cls := .type "set", dict := none, data := .set #[] 0 (.fresh 0 0 (!w.params.followText "set-order")) }).push { cls := .type "tuple_iterator", data := .fields #[.ref l, .int 0 0] }).get? s.heap.objs.size
              = some { cls := .type "set", dict := none, data := .set #[] 0 (.fresh 0 0 (!w.params.followText "set-order")) } := Heap.get?_push_of_some _ hS
          exact ⟨[], #[], 0, _, setTR_fresh hget, Got.zero ks⟩
        case hR =>
          intro s' L es ep t hm hS' g' hkp
          obtain ⟨h', g2, d', tk', os'⟩ := s'
          have eg : g2 = s.gens := hm.gens
          have ed : d' = s.drawn := hm.drawn
          have eo : os' = s.os := hm.os
          subst eg; subst ed; subst eo
          show wpAny _ _ _ _ _ _
          refine wpAny_pure ?_
          show wpAny _ _ (ret Value.none) _ _ _
          rw [hisz] at g'
          exact wpAny_pure ⟨rfl, h', tk', L, es, ep, t, rfl, hS', g', hkp⟩

      · cases r₂ with
        | error e => exact hr₂
        | ok fl₂ =>
          cases fl₂ with
          | ret r =>
            obtain ⟨rfl, h', tk, L, es, ep, t, rfl, hS', g', hk'⟩ := hr₂
            repeat (any_goals (first | assumption | wp_step))
            exact h _ _ _ _ _ _ hS' g' hk'
          | _ => exact hr₂.elim
    | _ => exact hr.elim
end
section
variable {X : Cx}
/-- set(t), t a tuple of tuples of ints -/
def rSetOfTT (K : PySem.W.Frag) (P : Program) (w : World) : List V → Hp → VK → Prop := fun xs H Q => ∃ (l : Addr) (ks : List (Addr × List Int)), xs = [V.ref l] ∧ SqT K H l (ks.map fun p => V.ref p.1) ∧ (∀ p ∈ ks, SqT K H p.1 (p.2.map V.int)) ∧ ks.length < 64 ∧
  ∀ a L, H a = none → (∀ p ∈ L, p ∈ ks) → (∀ p ∈ ks, p.2 ∈ L.map (·.2)) → L.length ≤ ks.length → Q (.ref a) (upd H a (SetTO P w a L))
theorem cr_setOfTT (hc : X.calm = true) (hu : X.A.units + 64 < cLine) : CallR X (.type "set") (rSetOfTT X.K X.prog X.w) := by
  intro pins s σ H xs us Q I r h
  obtain ⟨l, ks, rfl, hl, hk, hf, q⟩ := h
  rw [Vals.ref1 r]
  obtain ⟨its, rv, hT, hz⟩ := I.tuple hl
  have hn : H s.heap.objs.size = none := I.hok.fresh (Nat.le_refl _)
  refine call_set_tupsT (P := X.prog) (w := X.w) ks (I.ok.hd hc) hT (by simpa using refs_of_vals rv) (fun p hp => I.isT (hk p hp)) hf (by omega) fun h' tk L es ep t R g k => ?_
  refine ⟨.ref s.heap.objs.size, upd H s.heap.objs.size (SetTO X.prog X.w s.heap.objs.size L), I.laid (t' := tk) k (Nat.le_refl _) (setTO_new R.t0), rfl, q _ L hn (fun p hp => ?_) (fun p hp => ?_) g.len⟩
  · exact List.mem_of_mem_take (g.sub p hp)
  · exact g.all p (by rw [List.take_length]; exact hp)
def rSetOfLL (K : PySem.W.Frag) (P : Program) (w : World) : List V → Hp → VK → Prop := fun xs H Q => ∃ (l : Addr) (ks : List (Addr × List Int)), xs = [V.ref l] ∧ SqL K H l (ks.map fun p => V.ref p.1) ∧ (∀ p ∈ ks, SqT K H p.1 (p.2.map V.int)) ∧ ks.length < 64 ∧
  ∀ a L, H a = none → (∀ p ∈ L, p ∈ ks) → (∀ p ∈ ks, p.2 ∈ L.map (·.2)) → L.length ≤ ks.length → Q (.ref a) (upd H a (SetTO P w a L))
theorem cr_setOfLL (hc : X.calm = true) (hu : X.A.units + 64 < cLine) : CallR X (.type "set") (rSetOfLL X.K X.prog X.w) := by
  intro pins s σ H xs us Q I r h
  obtain ⟨l, ks, rfl, hl, hk, hf, q⟩ := h
  rw [Vals.ref1 r]
  obtain ⟨its, rv, pl, hz⟩ := I.list hl
  have hn : H s.heap.objs.size = none := I.hok.fresh (Nat.le_refl _)
  refine call_set_tups (P := X.prog) (w := X.w) ks (I.ok.hd hc) pl.isList (by simpa using refs_of_vals rv) (fun p hp => I.isT (hk p hp)) hf (by omega) fun h' tk L es ep t R g k => ?_
  refine ⟨.ref s.heap.objs.size, upd H s.heap.objs.size (SetTO X.prog X.w s.heap.objs.size L), I.laid (t' := tk) k (Nat.le_refl _) (setTO_new R.t0), rfl, q _ L hn (fun p hp => ?_) (fun p hp => ?_) g.len⟩
  · exact List.mem_of_mem_take (g.sub p hp)
  · exact g.all p (by rw [List.take_length]; exact hp)
theorem setTO_get {pins : List (Addr × Obj)} {σ : St} {H : Hp} {s : Shared} {a : Addr} {L : List (Addr × List Int)} (I : Inv X pins σ H s) (ha : H a = some (SetTO X.prog X.w a L)) (hk : ∀ p ∈ L, SqT X.K H p.1 (p.2.map V.int)) : ∃ es ep t, SetTR X.prog X.w s.heap a L es ep t :=
  SetT0.full (I.hok a _ ha).1 fun p hp => I.isT (hk p hp)
/-- x in s, x not in s -/
def rSInT (P : Program) (w : World) (K : PySem.W.Frag) (neg : Bool) : V → V → Hp → VK → Prop := fun x y H Q => ∃ (p a : Addr) (k : List Int) (L : List (Addr × List Int)), x = V.ref p ∧ y = V.ref a ∧ SqT K H p (k.map V.int) ∧ H a = some (SetTO P w a L) ∧ (∀ q ∈ L, SqT K H q.1 (q.2.map V.int)) ∧ Q (.bl (if neg then !decide (k ∈ L.map (·.2)) else decide (k ∈ L.map (·.2)))) H
theorem or_snotinT (hu : X.A.units + 64 < cLine) : OpR X (compareOp .NotIn) (rSInT X.prog X.w X.K true) := by
  intro pins s σ H x y v u Q I rx ry h
  obtain ⟨p, a, k, L, rfl, rfl, hp, ha, hk, q⟩ := h
  cases rx
  cases ry
  obtain ⟨es, ep, t, R⟩ := setTO_get I ha hk
  exact notInT_at R (I.isT hp) (by omega) fun tk => ⟨.bl _, H, I.tok _, rfl, q⟩
/-- s.add(x) -/
def rSAddT (P : Program) (w : World) (K : PySem.W.Frag) : V → List V → Hp → VK → Prop := fun x xs H Q => ∃ (a p : Addr) (k : List Int) (L : List (Addr × List Int)), x = V.ref a ∧ xs = [V.ref p] ∧ SqT K H p (k.map V.int) ∧ H a = some (SetTO P w a L) ∧ (∀ q ∈ L, SqT K H q.1 (q.2.map V.int)) ∧ L.length + 1 < 64 ∧
  ∀ L', (k ∈ L.map (·.2) → L' = L) → (k ∉ L.map (·.2) → L'.Perm ((p, k) :: L)) → Q .non (upd H a (SetTO P w a L'))
theorem mt_saddT (hu : X.A.units + 64 < cLine) : MtR X "set.add" (rSAddT X.prog X.w X.K) := by
  intro pins s σ H x xs v us Q I rx rxs h
  obtain ⟨a, p, k, L, rfl, rfl, hp, ha, hk, room, q⟩ := h
  cases rx
  rw [Vals.ref1 rxs]
  obtain ⟨es, ep, t, R⟩ := setTO_get I ha hk
  refine addT_at R (I.isT hp) (by omega) room fun tk h' L' es' ep' t' sb R' c1 c2 => ?_
  have he : ∃ u, h'.get? a = some u := by
    have ⟨o, ho, _⟩ := R'.ob
    exact ⟨o, ho⟩
  exact ⟨.non, upd H a (SetTO X.prog X.w a L'), I.write (e := a) (t' := tk) (by rw [ha]; trivial) (.inl rfl) (fun b u hb hu => (sb.2 b hb).trans hu) he (setTO_new R'.t0), rfl, q L' c1 c2⟩
def tSAddT (P : Program) (w : World) (K : PySem.W.Frag) (to : TE) (t : TA) : TE := fun σ H Q => to σ H fun x H1 => (∃ a L, x = V.ref a ∧ H1 a = some (SetTO P w a L)) ∧ t σ H1 fun xs H2 => rSAddT P w K x xs H2 Q
variable {o e : Expr} {es : List Expr} {to : TE} {t : TA} {apos cpos : Pos}
theorem pe_saddT (hu : X.A.units + 64 < cLine) (ho : PE X o to) (ha : PA X (e :: es) t)
    (hbase : attributeBase o "add" X.env (eval o X.env) = eval o X.env := by rfl)
    (hfew : ((backTo cpos (starEach (e :: es) X.env)).all (fun x => !x.1) && (backToKw cpos (keywordEach [] X.env)).all (fun x => x.1.isSome)
      && decide ((e :: es).length + ([] : List Keyword).length + (if ([] : List Keyword).isEmpty then 0 else 1) < 30)) = true := by rfl)
    (hline : (apos.endLine == cpos.line) = true := by rfl) (hs : starEach (e :: es) X.env = (false, eval e X.env) :: starEach es X.env := by rfl) (hplain : (backTo cpos (starEach es X.env)).any (·.1) = false := by rfl) :
    PE X (.Call (.Attribute o "add" apos) (e :: es) [] cpos) (tSAddT X.prog X.w X.K to t) := by
  refine ⟨fun pins s σ H Q I h => ?_⟩
  refine wpAny_Call_method_late hbase hfew hline rfl (thn (ho.run pins s σ H _ I h) fun v s1 ⟨x, H1, I1, r1, ty, q1⟩ => ?_)
  obtain ⟨a, L, rfl, hka⟩ := ty
  have R0 : SetT0 X.prog X.w s1.heap a L := (I1.hok a _ hka).1
  obtain ⟨_, _, _, ⟨ob, hob, hex, _⟩, _⟩ := R0.ex
  cases r1
  refine ⟨"set", "set.add", F.plainAttrs_set, F.slot_set_add, F.type_set_add, ⟨ob, hob, hex.1⟩, (fun b e => by injection e with e; subst e; exact ⟨ob, hob, hex.2.1⟩), ?_⟩
  have hA := ha.run cpos pins s1 σ H1 _ I1 q1
  rw [hs] at hA ⊢
  refine Calls.callWith_builtin (by show (false || (backTo cpos (starEach es X.env)).any (·.1)) = false; rw [hplain] <;> rfl) (Calls.evalArgs_plain ?_)
  exact thn hA fun us s2 ⟨vs, H2, I2, r2, q2⟩ => mt_saddT hu pins s2 σ H2 (.ref a) vs (.ref a) us Q I2 rfl r2 q2
end
end L2
namespace Cp
open PySem PySem.Spec L2
open PyProof.Rows hiding St
variable {K : PySem.W.Frag} {ε : Type}
theorem imm_cn : (yCn (K := K)).imm := imm_tup (imm_C imm_int (imm_1 imm_int))
def ck (c : Cn) : List Int := [c.1, c.2]
theorem ck_inj {a b : Cn} (h : ck a = ck b) : a = b := by
  unfold ck at h
  injection h with h1 h2
  injection h2 with h2
  exact Prod.ext h1 h2
section
variable (P : Program) (w : World)
/-- the members are those of a list -/
def cSet : Ct K (List Cn) := ⟨fun a F p o => ∃ L : List (Addr × List Int), o = SetTO P w p L ∧ (∀ q ∈ L, SqT K F q.1 (q.2.map V.int)) ∧ (∀ k, k ∈ (L.map fun q : Addr × List Int => q.2) ↔ ∃ c ∈ a, k = ck c) ∧ L.length ≤ a.length,
  fun e ⟨L, h1, h2, h3⟩ => ⟨L, h1, fun q hq => Same.sqt e (h2 q hq), h3⟩, fun ⟨L, h, _⟩ => by subst h; trivial⟩
def ySet : Ty K (List Cn) := (cSet P w).ty
end
/-- the tuples of a row -/
theorem ks_of {F : Hp} {l : List Cn} {xs : List V} (r : (yCn (K := K)).all l F xs) : ∃ ks : List (Addr × List Int), xs = ks.map (fun p => V.ref p.1) ∧ (∀ p ∈ ks, SqT K F p.1 (p.2.map V.int)) ∧ ks.map (·.2) = l.map ck := by
  induction r with
  | nil => exact ⟨[], rfl, fun p hp => (by cases hp), rfl⟩
  | @cons v a xs l h t ih =>
    obtain ⟨ks, e1, e2, e3⟩ := ih
    obtain ⟨p, us, rfl, h1, v1, r1, rfl, h2, v2, rfl, h3⟩ := h
    have h2 : v1 = .int a.1 := h2
    have h3 : v2 = .int a.2 := h3
    subst h2 h3
    refine ⟨(p, ck a) :: ks, by rw [e1]; rfl, fun q hq => ?_, by rw [List.map_cons, List.map_cons, e3]⟩
    rcases List.mem_cons.mp hq with z | z
    · rw [z]; exact h1
    · exact e2 q z
theorem cn_of {F : Hp} {c : Cn} {p : Addr} (h : SqT K F p ((ck c).map V.int)) : (yCn (K := K)).rel c F (.ref p) :=
  ⟨p, _, rfl, h, _, _, rfl, rfl, _, rfl, rfl⟩
theorem cn_key {F : Hp} {c : Cn} {v : V} (h : (yCn (K := K)).rel c F v) : ∃ p, v = .ref p ∧ SqT K F p ((ck c).map V.int) := by
  obtain ⟨p, us, rfl, h1, v1, r1, rfl, h2, v2, rfl, h3⟩ := h
  have h2 : v1 = .int c.1 := h2
  have h3 : v2 = .int c.2 := h3
  subst h2 h3
  exact ⟨p, rfl, h1⟩
theorem set_new {P : Program} {w : World} {F : Hp} {l : List Cn} {ks L : List (Addr × List Int)} {a : Addr} (e3 : ks.map (·.2) = l.map ck) (e2 : ∀ p ∈ ks, SqT K F p.1 (p.2.map V.int)) (h1 : ∀ p ∈ L, p ∈ ks) (h2 : ∀ p ∈ ks, p.2 ∈ L.map (·.2)) (h3 : L.length ≤ ks.length) : (cSet (K := K) P w).obj l F a (SetTO P w a L) := by
  refine ⟨L, rfl, fun q hq => e2 q (h1 q hq), fun k => ?_, ?_⟩
  · have e : k ∈ L.map (·.2) ↔ k ∈ ks.map (·.2) := by
      constructor
      · intro z
        obtain ⟨q, hq, rfl⟩ := List.mem_map.mp z
        exact List.mem_map.mpr ⟨q, h1 q hq, rfl⟩
      · intro z
        obtain ⟨q, hq, rfl⟩ := List.mem_map.mp z
        exact h2 q hq
    rw [e, e3, List.mem_map]
    exact ⟨fun ⟨c, h, e⟩ => ⟨c, h, e.symm⟩, fun ⟨c, h, e⟩ => ⟨c, h, e.symm⟩⟩
  · have := congrArg List.length e3
    rw [List.length_map, List.length_map] at this
    omega
/-- set(xs): fewer than 64 -/
def rSetC (l : List Cn) : R ε (List Cn) := if l.length < 64 then .ok l else .bad
def rSadd (l : List Cn) (a : Cn) : R ε Cn := if l.length < 62 then .ok a else .bad
section
variable {X : Cx} {J : Jc X.K ε} {ρ : Ev X.K} {e e' : Expr} {t t' : TE} {pos p : Pos} {μ ν : Md} {ml : R ε (List Cn)} {mc : R ε Cn}
theorem de_setL (hc : X.calm = true) (hu : X.A.units + 64 < cLine) (hg : Gl X "set") (hm : X.mg "set" = none) (ha : DE X J ρ e t (rV μ (yLst yCn)) ml) (he : starEach [e] X.env = (false, eval e X.env) :: starEach [] X.env := by rfl) :
    DE X J ρ (.Call (.Name "set" p) [e] [] pos) (tCB (rSetOfLL X.K X.prog X.w) (tCons t tNil)) (rF (cSet X.prog X.w)) (ml.bind fun l => rSetC l) :=
  de_callTy (cr_setOfLL hc hu) hg hm (by decide +kernel) (da_one ha he) (fun b F σ H x v Q S ⟨u, e1, r⟩ q => by
    obtain ⟨l, xs, h1, h2, r⟩ := r
    subst h1
    have r := all_back (T := yCn) (by exact imm_cn) S .b r
    obtain ⟨ks, rfl, k2, k3⟩ := ks_of r
    unfold rSetC at q
    by_cases hz : x.length < 64
    · rw [if_pos hz] at q
      have hl := congrArg List.length k3
      rw [List.length_map, List.length_map] at hl
      exact ⟨l, ks, e1, .inl (.inl ((Gh.le S.fh) _ _ h2)), fun p hp => Same.sqt S.fh (k2 p hp), by omega, fun a L g1 g2 g3 g4 => q _ _ _ (Gr.newH g1) (S.newH g1) ⟨a, _, rfl, g1, upd_same, S.freshF g1, set_new k3 k2 g2 g3 g4⟩⟩
    · rw [if_neg hz] at q; exact q.elim) (he := he)
theorem de_setT (hc : X.calm = true) (hu : X.A.units + 64 < cLine) (hg : Gl X "set") (hm : X.mg "set" = none) (ha : DE X J ρ e t (rV μ (yTupOf yCn)) ml) (he : starEach [e] X.env = (false, eval e X.env) :: starEach [] X.env := by rfl) :
    DE X J ρ (.Call (.Name "set" p) [e] [] pos) (tCB (rSetOfTT X.K X.prog X.w) (tCons t tNil)) (rF (cSet X.prog X.w)) (ml.bind fun l => rSetC l) :=
  de_callTy (cr_setOfTT hc hu) hg hm (by decide +kernel) (da_one ha he) (fun b F σ H x v Q S ⟨u, e1, r⟩ q => by
    obtain ⟨l, xs, h1, h2, r⟩ := r
    subst h1
    have r := all_back (T := yCn) (by exact imm_cn) S .b r
    obtain ⟨ks, rfl, k2, k3⟩ := ks_of r
    unfold rSetC at q
    by_cases hz : x.length < 64
    · rw [if_pos hz] at q
      have hl := congrArg List.length k3
      rw [List.length_map, List.length_map] at hl
      exact ⟨l, ks, e1, Same.sqt (Gh.le S.fh) h2, fun p hp => Same.sqt S.fh (k2 p hp), by omega, fun a L g1 g2 g3 g4 => q _ _ _ (Gr.newH g1) (S.newH g1) ⟨a, _, rfl, g1, upd_same, S.freshF g1, set_new k3 k2 g2 g3 g4⟩⟩
    · rw [if_neg hz] at q; exact q.elim) (he := he)
theorem set_at {b : B} {F : Hp} {σ : St} {H : Hp} {x : List Cn} {w : V} (S : Sta b ρ F σ H) (r : (ySet (K := X.K) X.prog X.w).rel x (ν.hp ρ σ F H) w) : ∃ a L, w = .ref a ∧ H a = some (SetTO X.prog X.w a L) ∧ (∀ q ∈ L, SqT X.K H q.1 (q.2.map V.int)) ∧ (∀ k, k ∈ L.map (·.2) ↔ ∃ c ∈ x, k = ck c) ∧ (∀ q ∈ L, SqT X.K (ν.hp ρ σ F H) q.1 (q.2.map V.int)) := by
  obtain ⟨a, o, rfl, h1, L, rfl, h2, h3, h4⟩ := r
  exact ⟨a, L, rfl, Md.le S ν _ _ h1, fun q hq => Same.sqt (Md.le S ν) (h2 q hq), h3, h2⟩
theorem mem_ck {x : List Cn} {c : Cn} {L : List (Addr × List Int)} (h : ∀ k, k ∈ L.map (·.2) ↔ ∃ c ∈ x, k = ck c) : decide (ck c ∈ L.map (·.2)) = memB c x := by
  unfold memB
  refine decide_eq_decide.mpr ((h _).trans ⟨?_, fun z => ⟨c, z, rfl⟩⟩)
  rintro ⟨d, hd, e⟩
  rw [ck_inj e]
  exact hd
theorem dq_notInS (hu : X.A.units + 64 < cLine) (ha : DE X J ρ e t (rV μ yCn) mc) (hb : DE X J ρ e' t' (rV ν (ySet X.prog X.w)) ml) (hm : behindInMarks .NotIn e' = false := by rfl) :
    DQ X J ρ (.Compare e [.NotIn] [e'] pos) (tOp (rSInT X.prog X.w X.K true) t t') (mc.bind fun a => ml.bind fun l => .ok (!memB a l)) :=
  dq_cmp (or_snotinT hu) hm ha hb fun b F σ H x y v w Q S r1 r2 q => by
    obtain ⟨p, h1, h2⟩ := cn_key r1
    obtain ⟨a, L, h3, h4, h5, h6, _⟩ := set_at S r2
    refine ⟨p, a, ck x, L, h1, h3, Same.sqt (Md.le S μ) h2, h4, h5, ?_⟩
    rw [if_pos rfl, mem_ck h6]
    exact PostE.here q S rfl
/-- s.add(x) -/
theorem own_set {b : B} {F : Hp} {σ : St} {H : Hp} {i : Nat} {l : List Cn} {P : Program} {w : World} {ρ : Ev K} (S : Sta b ρ F σ H) (hi : ρ[i]? = some (some (.ow (cSet P w) l))) : ∃ p L, σ[i]? = some (some (.ref p)) ∧ H p = some (SetTO P w p L) ∧ (∀ q ∈ L, SqT K F q.1 (q.2.map V.int)) ∧ (∀ k, k ∈ L.map (·.2) ↔ ∃ c ∈ l, k = ck c) ∧ L.length ≤ l.length := by
  obtain ⟨v, e1, p, o, rfl, h1, h2, h3, L, rfl, h4⟩ := S.sl i _ hi
  exact ⟨p, L, e1, h1, h4⟩
theorem ds_sadd {i : Nat} {l : List Cn} {m : R ε Cn} {o : Expr} {apos cpos : Pos} (hu : X.A.units + 64 < cLine) (ho : PE X o (tVar i)) (hi : ρ[i]? = some (some (.ow (cSet X.prog X.w) l))) (ha : DE X J ρ e t (rP yCn) m)
    (hbase : attributeBase o "add" X.env (eval o X.env) = eval o X.env := by rfl)
    (hfew : ((backTo cpos (starEach [e] X.env)).all (fun x => !x.1) && (backToKw cpos (keywordEach [] X.env)).all (fun x => x.1.isSome)
      && decide ([e].length + ([] : List Keyword).length + (if ([] : List Keyword).isEmpty then 0 else 1) < 30)) = true := by rfl)
    (hline : (apos.endLine == cpos.line) = true := by rfl) (hs : starEach [e] X.env = (false, eval e X.env) :: starEach [] X.env := by rfl) (hplain : (backTo cpos (starEach [] X.env)).any (·.1) = false := by rfl)
    (hsw : swapsWith (.Call (.Attribute o "add" apos) [e] [] cpos) none pos.line X.env = pure false := by rfl) :
    DS1 X J ρ (.Expr (.Call (.Attribute o "add" apos) [e] [] cpos) pos) (tDrop (tSAddT X.prog X.w X.K (tVar i) (tCons t tNil))) (fun c => .nx (ρ.set i (some (.ow (cSet X.prog X.w) (l ++ [c]))))) (m.bind fun a => rSadd l a) :=
  ⟨ps_expr (pe_saddT hu ho (dp_one ha hs).pa hbase hfew hline hs hplain) hsw, fun b F σ H D S q => by
    obtain ⟨p, L, e1, h1, h2⟩ := own_set S hi
    refine ⟨_, e1, ⟨p, L, rfl, h1⟩, (dp_one ha hs).ev b F σ H _ S ?_⟩
    cases m with
    | exn e => exact q
    | bad => exact q
    | ok a =>
      intro F' vs H' g S' r'
      obtain ⟨v, rfl, r'⟩ := r'
      have q' := PostS.later g.f (show PostS J b F D _ (rSadd l a) from q)
      obtain ⟨p', L', e1', h1', h2', h3', h4'⟩ := own_set S' hi
      rw [e1] at e1'; cases e1'
      obtain ⟨pc, rfl, hc⟩ := cn_key r'
      unfold rSadd at q'
      by_cases hz : l.length < 62
      · rw [if_pos hz] at q'
        refine ⟨p, pc, ck a, L', rfl, rfl, Same.sqt S'.fh hc, h1', fun q hq => Same.sqt S'.fh (h2' q hq), by omega, fun L2 g1 g2 => q' F' σ _ (Same.refl _) (S'.change hi e1 ⟨L2, rfl, ?_, ?_, ?_⟩)⟩
        · intro q hq
          by_cases z : ck a ∈ L'.map (·.2)
          · rw [g1 z] at hq; exact h2' q hq
          · rcases List.mem_cons.mp ((g2 z).mem_iff.mp hq) with y | y
            · rw [y]; exact hc
            · exact h2' q y
        · intro k
          have e : k ∈ L2.map (·.2) ↔ k ∈ L'.map (·.2) ∨ k = ck a := by
            by_cases z : ck a ∈ L'.map (·.2)
            · rw [g1 z]
              exact ⟨.inl, fun y => y.elim id fun y => by rw [y]; exact z⟩
            · have := ((g2 z).map (·.2)).mem_iff (a := k)
              rw [this, List.map_cons, List.mem_cons]
              exact or_comm
          rw [e, h3' k]
          constructor
          · rintro (⟨c, h, e⟩ | e)
            · exact ⟨c, List.mem_append_left _ h, e⟩
            · exact ⟨a, List.mem_append_right _ List.mem_cons_self, e⟩
          · rintro ⟨c, h, e⟩
            rcases List.mem_append.mp h with y | y
            · exact .inl ⟨c, y, e⟩
            · exact .inr (by rw [e, List.mem_singleton.mp y])
        · rw [List.length_append, List.length_singleton]
          by_cases z : ck a ∈ L'.map (·.2)
          · rw [g1 z]; omega
          · have := (g2 z).length_eq
            rw [List.length_cons] at this
            omega
      · rw [if_neg hz] at q'; exact q'.elim⟩
theorem de_ownS {l : List Cn} {i : Nat} {P : Program} {w : World} (hp : PE X e (tVar i)) (hi : ρ[i]? = some (some (.ow (cSet P w) l))) : DE X J ρ e (tVar i) (rB (ySet P w)) (.ok l) := de_own hp hi fun h => h
end
def dd : List Cn → List Cn
  | [] => []
  | x :: l => if x ∈ l then dd l else x :: dd l
theorem mem_dd {l : List Cn} {c : Cn} : c ∈ dd l ↔ c ∈ l := by
  induction l with
  | nil => exact Iff.rfl
  | cons x l ih =>
    unfold dd
    split
    · next h => rw [ih, List.mem_cons]; exact ⟨.inr, fun z => z.elim (fun z => by rw [z]; exact h) id⟩
    · rw [List.mem_cons, List.mem_cons, ih]
theorem nd_dd (l : List Cn) : (dd l).Nodup := by
  induction l with
  | nil => exact List.nodup_nil
  | cons x l ih =>
    unfold dd
    split
    · exact ih
    · next h => exact List.nodup_cons.mpr ⟨fun z => h (mem_dd.mp z), ih⟩
def cdC (c : Cn) : Int := c.1 * 64 + c.2
def srtC (l : List Cn) : List Cn := (dd l).mergeSort fun a b => decide (cdC a ≤ cdC b)
def inC (l : List Cn) : Bool := l.all fun c => decide (0 ≤ c.1 ∧ c.1 < 64 ∧ 0 ≤ c.2 ∧ c.2 < 64)
def rSortC (l : List Cn) : R ε (List Cn) := if inC l = true then .ok (srtC l) else .bad
theorem srtC_perm (l : List Cn) : (srtC l).Perm (dd l) := List.mergeSort_perm _ _
theorem srtC_pw (l : List Cn) : (srtC l).Pairwise fun a b => cdC a ≤ cdC b := by
  have := List.pairwise_mergeSort (le := fun a b : Cn => decide (cdC a ≤ cdC b)) (fun a b c h1 h2 => by
    have := of_decide_eq_true h1
    have := of_decide_eq_true h2
    exact decide_eq_true (by omega)) (fun a b => by
    by_cases h : cdC a ≤ cdC b
    · rw [decide_eq_true h]; rfl
    · rw [decide_eq_true (show cdC b ≤ cdC a by omega), Bool.or_true]) (dd l)
  exact this.imp fun h => of_decide_eq_true h
theorem srtC_uniq {l M : List Cn} (hin : inC l = true) (hn : M.Nodup) (hm : ∀ c, c ∈ M ↔ c ∈ l) (hp : M.Pairwise fun a b => cdC a ≤ cdC b) : M = srtC l := by
  have hin := List.all_eq_true.mp hin
  have pm : M.Perm (srtC l) := ((List.perm_ext_iff_of_nodup hn (nd_dd l)).mpr fun c => (hm c).trans mem_dd.symm).trans (srtC_perm l).symm
  refine List.Perm.eq_of_pairwise (le := fun a b => cdC a ≤ cdC b) (fun a b ha hb h1 h2 => ?_) hp (srtC_pw l) pm
  have ra := of_decide_eq_true (hin a ((hm a).mp ha))
  have rb := of_decide_eq_true (hin b (mem_dd.mp ((srtC_perm l).mem_iff.mp hb)))
  unfold cdC at h1 h2
  exact Prod.ext (by omega) (by omega)
section
variable {X : Cx} {J : Jc X.K ε} {ρ : Ev X.K} {e : Expr} {t : TE} {pos p : Pos} {μ : Md} {ml : R ε (List Cn)}
def fk (k : List Int) : Cn := (k.getD 0 0, k.getD 1 0)
theorem all_of {F : Hp} : ∀ (L : List (Addr × List Int)), (∀ q ∈ L, SqT K F q.1 (q.2.map V.int)) → (∀ q ∈ L, q.2 = ck (fk q.2)) → (yCn (K := K)).all (L.map fun q => fk q.2) F (L.map fun q => V.ref q.1)
  | [], _, _ => .nil
  | q :: L, h1, h2 => .cons (cn_of (by rw [← h2 q List.mem_cons_self]; exact h1 q List.mem_cons_self)) (all_of L (fun r hr => h1 r (List.mem_cons_of_mem _ hr)) fun r hr => h2 r (List.mem_cons_of_mem _ hr))
theorem code_ck (c : Cn) : TS.code 64 (ck c) = cdC c := code_pair c.1 c.2
theorem de_sortS (hc : X.calm = true) (hg : Gl X "sorted") (hm : X.mg "sorted" = none) (ha : DE X J ρ e t (rV μ (ySet X.prog X.w)) ml) (he : starEach [e] X.env = (false, eval e X.env) :: starEach [] X.env := by rfl) :
    DE X J ρ (.Call (.Name "sorted" p) [e] [] pos) (tCB (rSortedT X.K X.prog X.w) (tCons t tNil)) (rF (cLst yCn)) (ml.bind fun l => rSortC l) :=
  de_callB (cr_sortedT hc) hg hm (by decide +kernel) (da_one ha he) (fun b F σ H x v Q S ⟨u, e1, r⟩ q => by
    obtain ⟨a, o, h1, h2, L, h3, h4, h5, h6⟩ := r
    subst h1 h3
    have hF : ∀ q ∈ L, SqT X.K F q.1 (q.2.map V.int) := fun q hq => by
      have hk := (h5 q.2).mp (List.mem_map.mpr ⟨q, hq, rfl⟩)
      obtain ⟨c, hc, e⟩ := hk
      have r : (yCn (K := X.K)).rel c (Gh ρ σ F H) (.ref q.1) := cn_of (by rw [← e]; exact h4 q hq)
      obtain ⟨p', e', r'⟩ := cn_key (rel_back (T := yCn) (by exact imm_cn) S .b r)
      cases e'
      rw [e]
      exact r'
    unfold rSortC at q
    by_cases hz : inC x = true
    · rw [if_pos hz] at q
      have hin := List.all_eq_true.mp hz
      have key : ∀ q ∈ L, ∃ c ∈ x, q.2 = ck c := fun q hq => (h5 q.2).mp (List.mem_map.mpr ⟨q, hq, rfl⟩)
      refine ⟨a, L, 2, 64, e1, (Gh.le S.fh) _ _ h2, fun p hp => Same.sqt S.fh (hF p hp), by omega, fun p hp => ?_, fun L' p' g1 g2 g3 g4 g5 => ?_⟩
      · obtain ⟨c, hc, e⟩ := key p hp
        have hb := of_decide_eq_true (hin c hc)
        rw [e]
        refine ⟨rfl, fun z hz => ?_⟩
        rcases List.mem_cons.mp hz with y | y
        · rw [y]; exact ⟨hb.1, hb.2.1⟩
        · rw [List.mem_singleton.mp y]; exact ⟨hb.2.2.1, hb.2.2.2⟩
      · have key' : ∀ q ∈ L', ∃ c ∈ x, q.2 = ck c := fun q hq => key q (g1.mem_iff.mp hq)
        have fkc : ∀ c : Cn, fk (ck c) = c := fun c => rfl
        have ekc : ∀ q ∈ L', q.2 = ck (fk q.2) := fun q hq => by
          obtain ⟨c, _, e⟩ := key' q hq
          rw [e, fkc]
        have eM : (L'.map fun q => fk q.2) = srtC x := by
          refine srtC_uniq hz ?_ (fun c => ?_) ?_
          · refine List.pairwise_map.mpr (List.Pairwise.imp_of_mem (fun {q r} hq hr hne e => ?_) (List.pairwise_map.mp g2))
            refine hne ?_
            rw [ekc q hq, ekc r hr, e]
          · rw [List.mem_map]
            constructor
            · rintro ⟨q, hq, rfl⟩
              obtain ⟨c, hc, e⟩ := key' q hq
              rw [e, fkc]
              exact hc
            · intro hc
              obtain ⟨q, hq, e⟩ := List.mem_map.mp ((h5 (ck c)).mpr ⟨c, hc, rfl⟩)
              exact ⟨q, g1.mem_iff.mpr hq, by rw [e, fkc]⟩
          · refine List.pairwise_map.mpr (List.Pairwise.imp_of_mem (fun {q r} hq hr hle => ?_) g4)
            rw [ekc q hq, ekc r hr, code_ck, code_ck] at hle
            exact hle
        have ra := all_of L' (fun q hq => hF q (g1.mem_iff.mp hq)) ekc
        rw [eM] at ra
        exact q _ _ _ (Gr.newH g5) (S.newH g5) ⟨p', _, rfl, g5, upd_same, S.freshF g5, _, rfl, ra⟩
    · rw [if_neg hz] at q; exact q.elim) (he := he)
end
end Cp
namespace Cp
open PySem PySem.Spec L2
open PyProof.Rows hiding St
variable {K : PySem.W.Frag} {ε : Type}
theorem prd_at {α β : Type} {F : α → β → Prop} : ∀ {xs : List α} {us : List β}, Paired F xs us → ∀ (i : Nat) (u : β), us[i]? = some u → ∃ x, xs[i]? = some x ∧ F x u
  | _, _, .nil, i, u, h => by simp at h
  | _, _, .cons r t, 0, u, h => by
    rw [List.getElem?_cons_zero] at h
    cases h
    exact ⟨_, List.getElem?_cons_zero, r⟩
  | _, _, .cons r t, i + 1, u, h => by
    rw [List.getElem?_cons_succ] at h
    obtain ⟨x, h1, h2⟩ := prd_at t i u h
    exact ⟨x, by rw [List.getElem?_cons_succ]; exact h1, h2⟩
def rPopV {α : Type} (l : List α) : R ε α := match l.getLast? with
  | some a => .ok a
  | none => .bad
def rRoom {α : Type} (l : List α) : R ε Unit := if l.length < sizeLine then .ok () else .bad
section
variable {α β : Type} {X : Cx} {J : Jc X.K ε} {ρ : Ev X.K} {T : Ty X.K α} {U : Ty X.K β} {e : Expr} {t : TE} {pos : Pos} {μ : Md}
theorem ds_popSet {i j : Nat} {l : List α} {o : Expr} {apos cpos : Pos} {x : Str} {pos' : Pos} (hN : X.N.Nodup) (hj : X.N[j]? = some x) (hx : Loc X.env.scope x) (ho : PE X o (tVar i)) (hi : ρ[i]? = some (some (.ow (cLst T) l)))
    (hbase : attributeBase o "pop" X.env (eval o X.env) = eval o X.env := by rfl) (hline : (apos.endLine == cpos.line) = true := by rfl)
    (hs : swapsWith (.Call (.Attribute o "pop" apos) [] [] cpos) (some (.Name x pos')) pos.line X.env = pure false := by rfl) (hf : X.fn x = true ∨ X.env.scope.names.lookup x = some .local := by first | exact .inl rfl | exact .inr rfl) :
    DS1 X J ρ (.Assign [.Name x pos'] (.Call (.Attribute o "pop" apos) [] [] cpos) pos) (tAsg (tBM0 X.K "list" rPop (tVar i)) (gName j)) (fun a => .nx ((ρ.set i (some (.ow (cLst T) l.dropLast))).set j (some (.pl T a)))) (rPopV l) :=
  ⟨ps_set hN hj hx (pe_bm0 PySem.F.plainAttrs_list PySem.F.slot_list_pop PySem.F.type_list_pop mt_pop ho hbase hline) hs hf, fun b F σ H D S q => by
    obtain ⟨p, xs, e1, h1, h2⟩ := own_list S hi
    unfold rPopV at q
    rw [List.getLast?_eq_getElem?] at q
    have hlen : xs.length = l.length := Paired.length h2
    cases hl : l[l.length - 1]? with
    | none => rw [hl] at q; exact q.elim
    | some a =>
      rw [hl] at q
      obtain ⟨y, hy, r⟩ := prd_at h2 _ a hl
      rw [← hlen] at hy
      refine ⟨_, e1, tyl h1, p, xs, y, rfl, rfl, h1, hy, q F _ _ (Same.refl _) (Sta.setP (S.change hi e1 ⟨_, rfl, ?_⟩) r)⟩
      rw [List.dropLast_eq_take, List.dropLast_eq_take, hlen]
      exact prd_take _ h2⟩
theorem dt_lst {m : R ε (List α)} (ha : DE X J ρ e t (rV μ (yLst T)) m) (he : ∀ whole, isTrue e X.env whole = (do let v ← whole; standAt e.pos; holding [v] (truthy v)) := by intro _; rfl) :
    DT X J ρ e (fun σ H Q => t σ H fun x H' => ∃ k, TruV X.K x H' k ∧ Q k H') (m.bind fun l => .ok (!l.isEmpty)) :=
  ⟨pt_truth ha.pe he, fun b F σ H Q S q => ha.ev b F σ H _ S (by
    cases m with
    | ok l =>
      intro F' v H' g S' r
      obtain ⟨p, xs, rfl, h1, h2⟩ := r
      refine ⟨!l.isEmpty, .inl ⟨xs, .inl (.inl (Md.le S' μ _ _ h1)), ?_⟩, q F' H' g S'⟩
      cases h2 <;> rfl
    | exn e => exact q
    | bad => exact q)⟩
/-- a list of which nothing more is known -/
def cAny : Ct K Unit := ⟨fun _ _ _ o => ∃ xs, o = .lst xs, fun _ h => h, fun ⟨xs, h⟩ => by subst h; trivial⟩
theorem wk_set : ∀ (ρ : Ev K) (i : Nat) (a : Option (Slt K)), Wk (ρ.set i a) (ρ.set i none)
  | [], _, _ => .nil
  | s :: ρ, 0, a => .drop (Wk.refl ρ)
  | s :: ρ, i + 1, a => .keep (wk_set ρ i a)
/-- xs.append(e), xs is no more read -/
theorem ds_appDrop {i : Nat} {l : List α} {m : R ε β} {o : Expr} {apos cpos : Pos} (ho : PE X o (tVar i)) (hi : ρ[i]? = some (some (.ow (cLst T) l))) (ha : DE X J ρ e t (rP U) m)
    (hbase : attributeBase o "append" X.env (eval o X.env) = eval o X.env := by rfl)
    (hfew : ((backTo cpos (starEach [e] X.env)).all (fun x => !x.1) && (backToKw cpos (keywordEach [] X.env)).all (fun x => x.1.isSome)
      && decide ([e].length + ([] : List Keyword).length + (if ([] : List Keyword).isEmpty then 0 else 1) < 30)) = true := by rfl)
    (hline : (apos.endLine == cpos.line) = true := by rfl) (hs : starEach [e] X.env = (false, eval e X.env) :: starEach [] X.env := by rfl) (hplain : (backTo cpos (starEach [] X.env)).any (·.1) = false := by rfl)
    (hsw : swapsWith (.Call (.Attribute o "append" apos) [e] [] cpos) none pos.line X.env = pure false := by rfl) :
    DS1 X J ρ (.Expr (.Call (.Attribute o "append" apos) [e] [] cpos) pos) (tDrop (tBM X.K "list" rAppend (tVar i) (tCons t tNil))) (fun _ => .nx (ρ.set i none)) (m.bind fun _ => rRoom l) :=
  ⟨ps_expr (pe_bm PySem.F.plainAttrs_list PySem.F.slot_list_append PySem.F.type_list_append mt_append ho (dp_one ha hs).pa hbase hfew hline hs hplain) hsw, fun b F σ H D S q => by
    obtain ⟨p, xs, e1, h1, h2⟩ := own_list S hi
    refine ⟨_, e1, tyl h1, (dp_one ha hs).ev b F σ H _ S ?_⟩
    cases m with
    | exn e => exact q
    | bad => exact q
    | ok a =>
      intro F' vs H' g S' r'
      obtain ⟨v, rfl, r'⟩ := r'
      have q' := PostS.later g.f (show PostS J b F D _ (rRoom l) from q)
      obtain ⟨p', xs', e1', h1', h2'⟩ := own_list S' hi
      rw [e1] at e1'; cases e1'
      unfold rRoom at q'
      by_cases hz : l.length < sizeLine
      · rw [if_pos hz] at q'
        exact ⟨p, xs', v, rfl, rfl, h1', by rw [Paired.length h2']; exact hz, q' F' σ _ (Same.refl _) ((S'.change (C' := cAny) (a' := ()) hi e1 ⟨_, rfl⟩).wk (wk_set ..))⟩
      · rw [if_neg hz] at q'; exact q'.elim⟩
end
end Cp
namespace Cp
open PySem PySem.Spec L2
open PyProof.Rows hiding St
variable {K : PySem.W.Frag} {ε : Type}
/-- the list at p0 -/
def yLstA {α : Type} (p0 : Addr) (T : Ty K α) : Ty K (List α) := ⟨fun a F v => v = .ref p0 ∧ ∃ xs, F p0 = some (.lst xs) ∧ T.all a F xs, fun e ⟨h, xs, q, r⟩ => ⟨h, xs, e _ _ q, Ty.all_mono e r⟩⟩
theorem lstA {α : Type} {p0 : Addr} {T : Ty K α} {a : List α} {F : Hp} {v : V} (h : (yLstA p0 T).rel a F v) : (yLst T).rel a F v := by
  obtain ⟨e, xs, q, r⟩ := h
  exact ⟨p0, xs, e, q, r⟩
def Ct.nl {α : Type} (C : Ct K α) : Prop := ∀ {a : α} {F F' : Hp} {p : Addr} {o : HO}, (∀ p o, F p = some o → (∀ xs, o ≠ .lst xs) → F' p = some o) → C.obj a F p o → C.obj a F' p o
theorem nl_all {α : Type} {T : Ty K α} (i : T.nl) {l : List α} {F F' : Hp} {xs : List V} (h : ∀ p o, F p = some o → (∀ xs, o ≠ .lst xs) → F' p = some o) (r : T.all l F xs) : T.all l F' xs := Paired.mapP r fun _ _ r => i h r
theorem nlc_lst {α : Type} {T : Ty K α} (i : T.nl) : (cLst T).nl := fun h ⟨xs, e, r⟩ => ⟨xs, e, nl_all i h r⟩
theorem nl_sqt {F F' : Hp} {p : Addr} {xs : List V} (h : ∀ p o, F p = some o → (∀ xs, o ≠ .lst xs) → F' p = some o) (q : SqT K F p xs) : SqT K F' p xs := imm_sqt (fun p o e n => h p o e fun xs z => n (by subst z; trivial)) q
theorem nlc_set {P : Program} {w : World} : (cSet (K := K) P w).nl := fun h ⟨L, e, h1, h2⟩ => ⟨L, e, fun q hq => nl_sqt h (h1 q hq), h2⟩
def SNl : Option (Slt K) → Prop
  | none => True
  | some (.pl T _) => T.nl
  | some (.ow C _) => C.nl
def NLa (ρ : Ev K) : Prop := ∀ (j : Nat) (s : Option (Slt K)), ρ[j]? = some s → SNl s
def NLs (i : Nat) (ρ : Ev K) : Prop := ∀ (j : Nat) (s : Option (Slt K)), j ≠ i → ρ[j]? = some s → SNl s
theorem nla_nil : NLa ([] : Ev K) := fun j s h => by simp at h
theorem nla_c {s : Option (Slt K)} {ρ : Ev K} (h : SNl s) (t : NLa ρ) : NLa (s :: ρ) := fun j u e => by
  cases j with
  | zero => rw [List.getElem?_cons_zero] at e; cases e; exact h
  | succ j => rw [List.getElem?_cons_succ] at e; exact t j u e
theorem nls_at {s : Option (Slt K)} {ρ : Ev K} (t : NLa ρ) : NLs 0 (s :: ρ) := fun j u n e => by
  cases j with
  | zero => exact absurd rfl n
  | succ j => rw [List.getElem?_cons_succ] at e; exact t j u e
theorem nls_c {i : Nat} {s : Option (Slt K)} {ρ : Ev K} (h : SNl s) (t : NLs i ρ) : NLs (i + 1) (s :: ρ) := fun j u n e => by
  cases j with
  | zero => rw [List.getElem?_cons_zero] at e; cases e; exact h
  | succ j => rw [List.getElem?_cons_succ] at e; exact t j u (fun z => n (by rw [z])) e
section
variable {b : B} {ρ : Ev K} {F : Hp} {σ : St} {H : Hp}
/-- lent -/
theorem Sta.lend {α : Type} {T : Ty K α} {a : List α} {i : Nat} {p : Addr} {xs : List V} (S : Sta b ρ F σ H) (hi : ρ[i]? = some (some (.ow (cLst T) a))) (hv : σ[i]? = some (some (.ref p))) (h1 : H p = some (.lst xs)) (h2 : F p = none) (h3 : b.H0 p = none) (h4 : T.all a F xs) :
    Sta b (ρ.set i (some (.pl (yLstA p T) a))) (upd F p (.lst xs)) σ H := by
  have sf : Same F (upd F p (.lst xs)) := same_upd h2
  refine ⟨S.h0, S.tb, fun q hq => by
    obtain ⟨ps, e, _⟩ := S.tb q hq
    rw [upd_ne fun z => by rw [z, h1] at e; cases e]
    exact S.nt q hq, S.f0.trans sf, fun c u e => ?_, fun c u e e' => ?_, ?_, fun j s e => ?_, fun j k s t w e1 e2 o1 o2 e3 e4 => ?_⟩
  · by_cases hc : c = p
    · subst hc; rw [upd_same] at e; cases e; exact h1
    · rw [upd_ne hc] at e; exact S.fh _ _ e
  · by_cases hc : c = p
    · subst hc; exact h3
    · rw [upd_ne hc] at e; exact S.nw _ _ e e'
  · rw [List.length_set]; exact S.len
  · rcases getset e with ⟨rfl, q⟩ | ⟨ne, q⟩
    · cases q
      exact ⟨_, hv, rfl, xs, upd_same, Ty.all_mono sf h4⟩
    · obtain ⟨w, e1, e2⟩ := S.sl j s q
      refine ⟨w, e1, ?_⟩
      cases s with
      | pl T' a' => exact T'.mono sf e2
      | ow C' a' =>
        obtain ⟨p', o', rfl, q1, q2, q3, q4⟩ := e2
        refine ⟨p', o', rfl, q1, ?_, q3, C'.mono sf q4⟩
        rw [upd_ne]
        · exact q2
        · rintro rfl
          exact ne (S.ds j i _ _ _ q hi rfl rfl e1 hv)
  · rcases getset e1 with ⟨rfl, q⟩ | ⟨n1, q1⟩
    · cases q; cases o1
    · rcases getset e2 with ⟨rfl, q⟩ | ⟨n2, q2⟩
      · cases q; cases o2
      · exact S.ds j k s t w q1 q2 o1 o2 e3 e4
open Classical in
noncomputable def without (F : Hp) (p : Addr) : Hp := fun c => if c = p then none else F c
theorem wo_ne {F : Hp} {p c : Addr} (h : c ≠ p) : without F p c = F c := if_neg h
theorem wo_eq {F : Hp} {p : Addr} : without F p p = none := if_pos rfl
/-- taken back -/
theorem Sta.back {α : Type} {T : Ty K α} {a : List α} {i : Nat} {p : Addr} (S : Sta b ρ F σ H) (hi : ρ[i]? = some (some (.pl (yLstA p T) a))) (nl : NLs i ρ) (hT : T.nl) (h0 : b.F0 p = none) :
    Sta b (ρ.set i (some (.ow (cLst T) a))) (without F p) σ H := by
  obtain ⟨v, hv, rfl, xs, hp, hx⟩ := S.sl i _ hi
  have keep : ∀ q o, F q = some o → (∀ xs, o ≠ .lst xs) → without F p q = some o := fun q o e n => by
    rw [wo_ne]
    · exact e
    · rintro rfl
      rw [hp] at e
      cases e
      exact n xs rfl
  refine ⟨S.h0, S.tb, fun q hq => ?_, fun c u e => ?_, fun c u e => ?_, fun c u e e' => ?_, ?_, fun j s e => ?_, fun j k s t w e1 e2 o1 o2 e3 e4 => ?_⟩
  · by_cases hc : q.1 = p
    · rw [hc]; exact wo_eq
    · rw [wo_ne hc]; exact S.nt q hq
  · by_cases hc : c = p
    · subst hc; rw [h0] at e; cases e
    · rw [wo_ne hc]; exact S.f0 _ _ e
  · by_cases hc : c = p
    · subst hc; rw [wo_eq] at e; cases e
    · rw [wo_ne hc] at e; exact S.fh _ _ e
  · by_cases hc : c = p
    · subst hc; rw [wo_eq] at e; cases e
    · rw [wo_ne hc] at e; exact S.nw _ _ e e'
  · rw [List.length_set]; exact S.len
  · rcases getset e with ⟨rfl, q⟩ | ⟨ne, q⟩
    · cases q
      exact ⟨_, hv, p, _, rfl, S.fh _ _ hp, wo_eq, S.nw _ _ hp h0, xs, rfl, nl_all hT keep hx⟩
    · obtain ⟨w, e1, e2⟩ := S.sl j s q
      have n := nl j (some s) ne q
      refine ⟨w, e1, ?_⟩
      cases s with
      | pl T' a' => exact n keep e2
      | ow C' a' =>
        obtain ⟨p', o', rfl, q1, q2, q3, q4⟩ := e2
        refine ⟨p', o', rfl, q1, ?_, q3, n keep q4⟩
        rw [wo_ne]
        · exact q2
        · rintro rfl
          rw [hp] at q2; cases q2
  · have key : ∀ (j : Nat) (s : Slt K), j ≠ i → ρ[j]? = some (some s) → s.isOw = true → σ[j]? = some (some (.ref p)) → False := fun j s n e o e2 => by
      obtain ⟨w, z1, z2⟩ := S.sl j s e
      rw [e2] at z1; cases z1
      cases s with
      | pl T' a' => cases o
      | ow C' a' =>
        obtain ⟨p', o', e3, _, q2, _⟩ := z2
        cases e3
        rw [hp] at q2; cases q2
    rcases getset e1 with ⟨rfl, q⟩ | ⟨n1, q1⟩
    · rcases getset e2 with ⟨rfl, q'⟩ | ⟨n2, q2⟩
      · rfl
      · rw [hv] at e3; cases e3
        exact (key k t n2 q2 o2 e4).elim
    · rcases getset e2 with ⟨rfl, q'⟩ | ⟨n2, q2⟩
      · rw [hv] at e4; cases e4
        exact (key j s n1 q1 o1 e3).elim
      · exact S.ds j k s t w q1 q2 o1 o2 e3 e4
end
section
variable {α τ : Type} {X : Cx} {J : Jc X.K ε} {ρ : Ev X.K} {T : Ty X.K α}
theorem ds_lend {i : Nat} {l : List α} {st : Stmt} {t : TS} {m : R ε τ} {eH : Addr → τ → Ev X.K} {eH' : τ → Ev X.K} (hi : ρ[i]? = some (some (.ow (cLst T) l))) (hT : T.nl)
    (h : ∀ p0, DS1 X J (ρ.set i (some (.pl (yLstA p0 T) l))) st t (fun a => .nx (eH p0 a)) m) (h1 : ∀ p0 a, (eH p0 a)[i]? = some (some (.pl (yLstA p0 T) l))) (h2 : ∀ p0 a, NLs i (eH p0 a)) (h3 : ∀ p0 a, (eH p0 a).set i (some (.ow (cLst T) l)) = eH' a) :
    DS1 X J ρ st t (fun a => .nx (eH' a)) m :=
  ⟨(h 0).ps, fun b F σ H D S q => by
    obtain ⟨v, hv, p, o, rfl, r1, r2, r3, xs, rfl, r4⟩ := S.sl i _ hi
    have S' := S.lend hi hv r1 r2 r3 r4
    have h0 : b.F0 p = none := by
      cases z : b.F0 p with
      | none => rfl
      | some u => rw [S.f0 _ _ z] at r2; cases r2
    refine (h p).ev b _ σ H D S' ?_
    cases m with
    | exn e => exact q
    | bad => exact q
    | ok a =>
      intro F2 σ2 H2 sf S2
      have S3 := S2.back (h1 p a) (h2 p a) hT h0
      rw [h3 p a] at S3
      refine q _ σ2 H2 (fun c u e => ?_) S3
      have hc : c ≠ p := fun z => by rw [z, r2] at e; cases e
      rw [wo_ne hc]
      exact sf _ _ (by rw [upd_ne hc]; exact e)⟩
end
end Cp
namespace CpLaw
open PySem PySem.Spec L2 Cp
open PyProof.Rows hiding St
variable {K : PySem.W.Frag}
def top (i : Nat) : Stmt := PySem.Challenge.pw_cornerplane_k40_whole_closure_in_any_ord.main.body.getD i (.Pass ⟨0, 0, 0, 0⟩)
abbrev FnP (K : PySem.W.Frag) (x : Str) (st : Stmt) (f : Addr) (fd : FuncData) : Prop := FunD K x x (defArgs st) (defBody st) (defScope st) [] [] f fd
abbrev Er := Empty
abbrev EX : Ex Er := ⟨fun e => (nomatch e), fun {e} => (nomatch e)⟩
abbrev FnQ (K : PySem.W.Frag) (x q : Str) (st : Stmt) (f : Addr) (fd : FuncData) : Prop := FunD K x q (defArgs st) (defBody st) (defScope st) [] [] f fd
def clsAt (st : Stmt) (j : Nat) : Stmt := match st with
  | .ClassDef (body := b) .. => b.getD j (.Pass ⟨0, 0, 0, 0⟩)
  | s => s
abbrev CX : CXT := CX0
theorem passC {X : Cx} {E : St → XK} : ∀ σ, PassesAt CX X σ (E σ) := passC0
structure Bt (mg : Str → Option Value) : Prop where
  abs : mg "abs" = none
  bool : mg "bool" = none
  int : mg "int" = none
  isinstance : mg "isinstance" = none
  len : mg "len" = none
  list : mg "list" = none
  max : mg "max" = none
  range : mg "range" = none
  set : mg "set" = none
  sorted : mg "sorted" = none
  tuple : mg "tuple" = none
  zip : mg "zip" = none
  k_FALLING : ∃ tk, mg "FALLING" = some (.str ("falling" : PySem.Str) tk)
  k_RISING : ∃ tk, mg "RISING" = some (.str ("rising" : PySem.Str) tk)
structure OC (K : PySem.W.Frag) : Prop where
  c_Plane : L2.Cls K (He.ga K "Plane")
  n_Plane_board : NoAttr K (He.ga K "Plane") "board"
  n_Plane_rising : NoAttr K (He.ga K "Plane") "rising"
  n_Plane_falling : NoAttr K (He.ga K "Plane") "falling"
  n_Plane_letters : NoAttr K (He.ga K "Plane") "letters"
abbrev s_open_pair : Stmt := top 7
abbrev s_derivation : Stmt := top 8
abbrev s_is_derivation : Stmt := top 9
abbrev s_closure_own : Stmt := top 10
abbrev s_corners_of : Stmt := top 14
abbrev s_on_board : Stmt := top 15
abbrev s_rising_pairs : Stmt := top 16
abbrev s_falling_pairs : Stmt := top 17
abbrev s_pairs_of : Stmt := top 18
abbrev s_steps_between : Stmt := top 19
abbrev s_pairs_by_steps : Stmt := top 20
abbrev s_steep_letter : Stmt := top 21
abbrev s_moved_own : Stmt := top 22
abbrev s_has_table_form : Stmt := top 24
abbrev s_letters_by_pair : Stmt := top 25
abbrev s_first_letter : Stmt := top 26
abbrev s_before : Stmt := top 27
abbrev s_last_letters : Stmt := top 28
abbrev s_find_broken_pair : Stmt := top 29
abbrev s_cell : Stmt := top 33
abbrev s_draws : Stmt := top 34
abbrev s_board : Stmt := top 35
abbrev s_all_corners : Stmt := top 36
abbrev s_moved : Stmt := top 37
abbrev s_letter : Stmt := top 38
abbrev s_walk : Stmt := top 39
abbrev s_line : Stmt := top 40
abbrev s_pairs : Stmt := top 41
abbrev s_texts : Stmt := top 42
abbrev s_bits : Stmt := top 43
abbrev s_fill : Stmt := top 44
abbrev s_closure : Stmt := top 45
abbrev s_is_integer : Stmt := top 46
abbrev s_is_corner : Stmt := top 47
abbrev s_is_row : Stmt := top 48
abbrev s_is_path : Stmt := top 49
abbrev s_some_board : Stmt := top 50
abbrev s_given : Stmt := top 51
abbrev s_without_doubles : Stmt := top 52
abbrev s_open : Stmt := top 53
abbrev s_is_open : Stmt := top 54
abbrev s_is_right_derivation : Stmt := top 55
abbrev s_closes : Stmt := top 56
abbrev s_law : Stmt := top 57
abbrev s_Plane_init : Stmt := clsAt (top 31) 0
abbrev s_Plane_letter : Stmt := clsAt (top 31) 1
abbrev s_Plane_walked : Stmt := clsAt (top 31) 2
abbrev s_Plane_line : Stmt := clsAt (top 31) 3
def m_cell (script_p : (List Int)) (k_p : Int) : R Er Int := if (decide (k_p < (List.length script_p : Int))) then (((rIx script_p k_p)).bind fun v1 => R.ok v1) else
  (R.ok (0 : Int))
abbrev sp_cell (P : Program) (w : World) (K : PySem.W.Frag) : Sp := spD (K := K) EX (tysC (yScr yInt) (tys1 yInt)) (qP (K := K) yInt) (fun a => m_cell a.1 a.2)
theorem sc_cell : FnScope ["_law_script", "_law_k"] ["_law_script", "_law_k"] (defScope s_cell) := ⟨rfl, rfl, rfl, by decide +kernel, rfl, by decide +kernel, by decide +kernel⟩
theorem ok_cell {P : Program} {w : World} {K : PySem.W.Frag} {mg : Str → Option Value} {base : Heap} {f : Addr} {fd : FuncData} (F : FnP K "_law_cell" s_cell f fd) (oc : OC K) (bt : Bt mg) : FnOk P w K mg base CX 1 f fd ["_law_script", "_law_k"] (sp_cell P w K) := by
  refine fn_ok F sc_cell (entC (ent1 rfl)) rfl fun cdv A outer s H E hr a => ?_
  obtain ⟨script_p, k_p⟩ := a
  have sc := sc_cell
  exact ⟨_, fun c => .rt (qP (K := K) yInt c), DS.cast (m' := m_cell script_p k_p) (ds_ift (DQ.dt (dq_lt (de_var (pv 1) rfl) (de_len len_scr rfl bt.len (de_var (pv 0) rfl)))) (ds_one (ds_ret (f := (fun a => a)) (de_int1 rfl bt.int (de_ixS (de_var (pv 0) rfl) (de_var (pv 1) rfl))) (fun _ => rfl))) (fun _ => rfl) (ds_one (ds_ret (f := (fun a => a)) (de_c (T := yInt) (a := (0 : Int)) pe_int (fun _ => rfl)) (fun _ => rfl)))) (by unfold m_cell; simp only [bo, isIn_dec, andok, orok]), fun _ => .inl rfl⟩
def m_draws (cell_here_p : Int) (sizes_p : (List Int)) : R Er (List Int) := (R.ok ([] : List Int)).bind fun (drawn_1 : (List Int)) =>
  (R.ok cell_here_p).bind fun (rest_2 : Int) =>
  (((rPow (10 : Int) (18 : Int))).bind fun v4 => R.ok (decide (v4 ≤ rest_2))).bind fun (digits_3 : Bool) =>
  (((rRng 0 (List.length sizes_p : Int))).bind fun v26 => forS (fun (k_5 : Int) (s6 : ((List Int) × Int)) => ((rIx sizes_p k_5)).bind fun (size_7 : Int) =>
  if (digits_3 && (decide ((0 : Int) < s6.2))) then ((((rMod s6.2 size_7)).bind fun v10 => (rApp s6.1 v10)).bind fun (c9 : Int) =>
  ((rDiv s6.2 size_7)).bind fun (rest_11 : Int) =>
  R.ok ((s6.1 ++ [c9]), rest_11)) else
  ((((((rMul (7919 : Int) k_5)).bind fun v13 => R.ok (cell_here_p + v13)).bind fun v14 => R.ok (v14 + (13 : Int))).bind fun v15 => (rMod v15 (2147483647 : Int))).bind fun (mixed_12 : Int) =>
  (((rMul mixed_12 (mixed_12 + (48271 : Int)))).bind fun v17 => (rMod v17 (2147483629 : Int))).bind fun (mixed_16 : Int) =>
  ((((rMul mixed_16 (mixed_16 + (69621 : Int)))).bind fun v19 => ((rMul (31 : Int) k_5)).bind fun v20 => R.ok (v19 + v20)).bind fun v21 => (rMod v21 (2147483647 : Int))).bind fun (mixed_18 : Int) =>
  ((((rDiv mixed_18 (9 : Int))).bind fun v23 => (rMod v23 size_7)).bind fun v25 => (rApp s6.1 v25)).bind fun (c24 : Int) =>
  R.ok ((s6.1 ++ [c24]), s6.2))) v26 (drawn_1, rest_2)).bind fun (s27 : ((List Int) × Int)) =>
  R.ok s27.1
abbrev sp_draws (P : Program) (w : World) (K : PySem.W.Frag) : Sp := spD (K := K) EX (tysC yInt (tys1 (yLst yInt))) (qF (K := K) (cLst yInt)) (fun a => m_draws a.1 a.2)
theorem sc_draws : FnScope ["_law_cell_here", "_law_sizes", "_law_drawn", "_law_rest", "_law_digits", "_law_k", "_law_size", "_law_mixed"] ["_law_cell_here", "_law_sizes"] (defScope s_draws) := ⟨rfl, rfl, rfl, by decide +kernel, rfl, by decide +kernel, by decide +kernel⟩
theorem ok_draws {P : Program} {w : World} {K : PySem.W.Frag} {mg : Str → Option Value} {base : Heap} {f : Addr} {fd : FuncData} (F : FnP K "_law_draws" s_draws f fd) (oc : OC K) (bt : Bt mg) : FnOk P w K mg base CX 1 f fd ["_law_cell_here", "_law_sizes"] (sp_draws P w K) := by
  refine fn_ok F sc_draws (entC (ent1 rfl)) rfl fun cdv A outer s H E hr a => ?_
  obtain ⟨cell_here_p, sizes_p⟩ := a
  have sc := sc_draws
  exact ⟨_, fun c => .rt (qF (K := K) (cLst yInt) c), DS.cast (m' := m_draws cell_here_p sizes_p) (ds_cons (ρ1 := fun (drawn_1 : (List Int)) => [some (.pl yInt cell_here_p), some (.pl (yLst yInt) sizes_p), some (.ow (cLst yInt) drawn_1), none, none, none, none, none]) (ds_setF (i := 2) sc.nd rfl (.inl rfl) (de_lst (T := yInt) (dl_nil))) (fun (drawn_1 : (List Int)) => ds_cons (ρ1 := fun (rest_2 : Int) => [some (.pl yInt cell_here_p), some (.pl (yLst yInt) sizes_p), some (.ow (cLst yInt) drawn_1), some (.pl yInt rest_2), none, none, none, none]) (ds_set (i := 3) sc.nd rfl (.inl rfl) (de_int1 rfl bt.int (de_var (pv 0) rfl))) (fun (rest_2 : Int) => ds_cons (ρ1 := fun (digits_3 : Bool) => [some (.pl yInt cell_here_p), some (.pl (yLst yInt) sizes_p), some (.ow (cLst yInt) drawn_1), some (.pl yInt rest_2), some (.pl yBl digits_3), none, none, none]) (ds_set (i := 4) sc.nd rfl (.inl rfl) (DQ.de (dq_ge (de_var (pv 3) rfl) (de_pow (de_c (T := yInt) (a := (10 : Int)) pe_int (fun _ => rfl)) (de_c (T := yInt) (a := (18 : Int)) pe_int (fun _ => rfl)))))) (fun (digits_3 : Bool) => ds_cons (ρ1 := fun (s27 : ((List Int) × Int)) => [some (.pl yInt cell_here_p), some (.pl (yLst yInt) sizes_p), some (.ow (cLst yInt) s27.1), some (.pl yInt s27.2), some (.pl yBl digits_3), none, none, none]) (ds_forS (eH := fun (s6 : ((List Int) × Int)) => [some (.pl yInt cell_here_p), some (.pl (yLst yInt) sizes_p), some (.ow (cLst yInt) s6.1), some (.pl yInt s6.2), some (.pl yBl digits_3), none, none, none]) (eB := fun (s6 : ((List Int) × Int)) (k_5 : Int) => [some (.pl yInt cell_here_p), some (.pl (yLst yInt) sizes_p), some (.ow (cLst yInt) s6.1), some (.pl yInt s6.2), some (.pl yBl digits_3), some (.pl yInt k_5), none, none]) (a0 := (drawn_1, rest_2)) (passes_of rfl) rfl (di_range1 (by rfl) bt.range (de_len len_lst rfl bt.len (de_var (pv 1) rfl))) (.keep (.keep (.keep (.keep (.keep (.keep (.keep (.keep .nil)))))))) (fun (s6 : ((List Int) × Int)) => dg_name (pg_name (i := 5) sc.nd rfl (.inl rfl))) (fun (s6 : ((List Int) × Int)) (k_5 : Int) => ds_cons (ρ1 := fun (size_7 : Int) => [some (.pl yInt cell_here_p), some (.pl (yLst yInt) sizes_p), some (.ow (cLst yInt) s6.1), some (.pl yInt s6.2), some (.pl yBl digits_3), some (.pl yInt k_5), some (.pl yInt size_7), none]) (ds_set (i := 6) sc.nd rfl (.inl rfl) (de_ixL (de_var (pv 1) rfl) (de_var (pv 5) rfl))) (fun (size_7 : Int) => ds_one (ds_if1 (DW.dt (dw_and (dt_val (de_var (pv 4) rfl)) (dw_and1 (DQ.dt (dq_gt (de_var (pv 3) rfl) (de_c (T := yInt) (a := (0 : Int)) pe_int (fun _ => rfl))))))) (ds_cons (ρ1 := fun (c9 : Int) => [some (.pl yInt cell_here_p), some (.pl (yLst yInt) sizes_p), some (.ow (cLst yInt) (s6.1 ++ [c9])), some (.pl yInt s6.2), some (.pl yBl digits_3), some (.pl yInt k_5), some (.pl yInt size_7), none]) (ds_append (pv 2) rfl (de_mod (de_int1 rfl bt.int (de_var (pv 3) rfl)) (de_var (pv 6) rfl))) (fun (c9 : Int) => ds_cons (ρ1 := fun (rest_11 : Int) => [some (.pl yInt cell_here_p), some (.pl (yLst yInt) sizes_p), some (.ow (cLst yInt) (s6.1 ++ [c9])), some (.pl yInt rest_11), some (.pl yBl digits_3), some (.pl yInt k_5), some (.pl yInt size_7), none]) (ds_set (i := 3) sc.nd rfl (.inl rfl) (de_div (de_var (pv 3) rfl) (de_var (pv 6) rfl))) (fun (rest_11 : Int) => ds_nil (c := ((s6.1 ++ [c9]), rest_11)) (by first | exact .inl rfl | exact .inr rfl) (.keep (.keep (.keep (.keep (.keep (.drop (.drop (.keep .nil))))))))))) (ds_cons (ρ1 := fun (mixed_12 : Int) => [some (.pl yInt cell_here_p), some (.pl (yLst yInt) sizes_p), some (.ow (cLst yInt) s6.1), some (.pl yInt s6.2), some (.pl yBl digits_3), some (.pl yInt k_5), some (.pl yInt size_7), some (.pl yInt mixed_12)]) (ds_set (i := 7) sc.nd rfl (.inl rfl) (de_mod (de_int1 rfl bt.int (de_add (de_add (de_var (pv 0) rfl) (de_mul (de_c (T := yInt) (a := (7919 : Int)) pe_int (fun _ => rfl)) (de_var (pv 5) rfl))) (de_c (T := yInt) (a := (13 : Int)) pe_int (fun _ => rfl)))) (de_c (T := yInt) (a := (2147483647 : Int)) pe_int (fun _ => rfl)))) (fun (mixed_12 : Int) => ds_cons (ρ1 := fun (mixed_16 : Int) => [some (.pl yInt cell_here_p), some (.pl (yLst yInt) sizes_p), some (.ow (cLst yInt) s6.1), some (.pl yInt s6.2), some (.pl yBl digits_3), some (.pl yInt k_5), some (.pl yInt size_7), some (.pl yInt mixed_16)]) (ds_set (i := 7) sc.nd rfl (.inl rfl) (de_mod (de_int1 rfl bt.int (de_mul (de_var (pv 7) rfl) (de_add (de_var (pv 7) rfl) (de_c (T := yInt) (a := (48271 : Int)) pe_int (fun _ => rfl))))) (de_c (T := yInt) (a := (2147483629 : Int)) pe_int (fun _ => rfl)))) (fun (mixed_16 : Int) => ds_cons (ρ1 := fun (mixed_18 : Int) => [some (.pl yInt cell_here_p), some (.pl (yLst yInt) sizes_p), some (.ow (cLst yInt) s6.1), some (.pl yInt s6.2), some (.pl yBl digits_3), some (.pl yInt k_5), some (.pl yInt size_7), some (.pl yInt mixed_18)]) (ds_set (i := 7) sc.nd rfl (.inl rfl) (de_mod (de_int1 rfl bt.int (de_add (de_mul (de_var (pv 7) rfl) (de_add (de_var (pv 7) rfl) (de_c (T := yInt) (a := (69621 : Int)) pe_int (fun _ => rfl)))) (de_mul (de_c (T := yInt) (a := (31 : Int)) pe_int (fun _ => rfl)) (de_var (pv 5) rfl)))) (de_c (T := yInt) (a := (2147483647 : Int)) pe_int (fun _ => rfl)))) (fun (mixed_18 : Int) => ds_cons (ρ1 := fun (c24 : Int) => [some (.pl yInt cell_here_p), some (.pl (yLst yInt) sizes_p), some (.ow (cLst yInt) (s6.1 ++ [c24])), some (.pl yInt s6.2), some (.pl yBl digits_3), some (.pl yInt k_5), some (.pl yInt size_7), some (.pl yInt mixed_18)]) (ds_append (pv 2) rfl (de_mod (de_int1 rfl bt.int (de_div (de_var (pv 7) rfl) (de_c (T := yInt) (a := (9 : Int)) pe_int (fun _ => rfl)))) (de_var (pv 6) rfl))) (fun (c24 : Int) => ds_nil (c := ((s6.1 ++ [c24]), s6.2)) (by first | exact .inl rfl | exact .inr rfl) (.keep (.keep (.keep (.keep (.keep (.drop (.drop (.drop .nil))))))))))))))))) (fun (s27 : ((List Int) × Int)) => ds_one (ds_retO (c := s27.1) (pv 2) rfl rfl)))))) (by unfold m_draws; simp only [bo, isIn_dec, andok, orok]), fun _ => .inl rfl⟩
def m_board (cell_here_p : Int) (most_p : Int) : R Er (Int × Int) := ((m_draws cell_here_p ([(8 : Int), most_p, most_p, (most_p + (1 : Int)), (most_p + (1 : Int))] : List Int))).bind fun (d_1 : (List Int)) =>
  (((rIx d_1 (0 : Int))).bind fun v2 => R.ok (decide (v2 = (0 : Int)))).bind fun v11 => if v11 then ((((rIx d_1 (3 : Int))).bind fun v3 => ((rIx d_1 (4 : Int))).bind fun v4 => R.ok (v3, v4)).bind fun v5 => R.ok v5) else
  (((((rIx d_1 (1 : Int))).bind fun v6 => R.ok (v6 + (1 : Int))).bind fun v8 => (((rIx d_1 (2 : Int))).bind fun v7 => R.ok (v7 + (1 : Int))).bind fun v9 => R.ok (v8, v9)).bind fun v10 => R.ok v10)
abbrev sp_board (P : Program) (w : World) (K : PySem.W.Frag) : Sp := spD (K := K) EX (tysC yInt (tys1 yInt)) (qP (K := K) (yTup (tysC yInt (tys1 yInt)))) (fun a => m_board a.1 a.2)
theorem sc_board : FnScope ["_law_cell_here", "_law_most", "_law_d"] ["_law_cell_here", "_law_most"] (defScope s_board) := ⟨rfl, rfl, rfl, by decide +kernel, rfl, by decide +kernel, by decide +kernel⟩
theorem ok_board {P : Program} {w : World} {K : PySem.W.Frag} {mg : Str → Option Value} {base : Heap} {f : Addr} {fd : FuncData} (F : FnP K "_law_board" s_board f fd) (c_draws : Cal P w K mg base CX 1 "_law_draws" ["_law_cell_here", "_law_sizes"] (sp_draws P w K)) (oc : OC K) (bt : Bt mg) : FnOk P w K mg base CX 2 f fd ["_law_cell_here", "_law_most"] (sp_board P w K) := by
  refine fn_ok F sc_board (entC (ent1 rfl)) rfl fun cdv A outer s H E hr a => ?_
  obtain ⟨cell_here_p, most_p⟩ := a
  have sc := sc_board
  exact ⟨_, fun c => .rt (qP (K := K) (yTup (tysC yInt (tys1 yInt))) c), DS.cast (m' := m_board cell_here_p most_p) (ds_cons (ρ1 := fun (d_1 : (List Int)) => [some (.pl yInt cell_here_p), some (.pl yInt most_p), some (.ow (cLst yInt) d_1)]) (ds_setF (i := 2) sc.nd rfl (.inl rfl) (de_callF c_draws.ok (hr.mono (by decide)) rfl c_draws.mg c_draws.kp c_draws.bd passC (da_cons (de_var (pv 0) rfl) (da_one (DE.fpL (de_lst (T := yInt) (dl_cons (de_c (T := yInt) (a := (8 : Int)) pe_int (fun _ => rfl)) (dl_cons (de_var (pv 1) rfl) (dl_cons (de_var (pv 1) rfl) (dl_cons (de_add (de_var (pv 1) rfl) (de_c (T := yInt) (a := (1 : Int)) pe_int (fun _ => rfl))) (dl_cons (de_add (de_var (pv 1) rfl) (de_c (T := yInt) (a := (1 : Int)) pe_int (fun _ => rfl))) (dl_nil)))))))))) (imm_cLst imm_int) (wkN rfl))) (fun (d_1 : (List Int)) => ds_ift (DQ.dt (dq_eqI (de_ixL (de_ownL (pv 2) rfl) (de_c (T := yInt) (a := (0 : Int)) pe_int (fun _ => rfl))) (de_c (T := yInt) (a := (0 : Int)) pe_int (fun _ => rfl)))) (ds_one (ds_ret (f := (fun a => a)) (de_tup (dp_cons (DE.bp (de_ixL (de_ownL (pv 2) rfl) (de_c (T := yInt) (a := (3 : Int)) pe_int (fun _ => rfl))) imm_int) (dp_one (DE.bp (de_ixL (de_ownL (pv 2) rfl) (de_c (T := yInt) (a := (4 : Int)) pe_int (fun _ => rfl))) imm_int)))) (fun _ => rfl))) (fun _ => rfl) (ds_one (ds_ret (f := (fun a => a)) (de_tup (dp_cons (de_add (de_ixL (de_ownL (pv 2) rfl) (de_c (T := yInt) (a := (1 : Int)) pe_int (fun _ => rfl))) (de_c (T := yInt) (a := (1 : Int)) pe_int (fun _ => rfl))) (dp_one (de_add (de_ixL (de_ownL (pv 2) rfl) (de_c (T := yInt) (a := (2 : Int)) pe_int (fun _ => rfl))) (de_c (T := yInt) (a := (1 : Int)) pe_int (fun _ => rfl)))))) (fun _ => rfl))))) (by unfold m_board; simp only [bo, isIn_dec, andok, orok]), fun _ => .inl rfl⟩
def m_some_board (cell_here_p : Int) : R Er (Int × Int) := ((m_draws cell_here_p ([(8 : Int), (3 : Int), (3 : Int), (4 : Int), (4 : Int), (8 : Int), (4 : Int)] : List Int))).bind fun (d_1 : (List Int)) =>
  (((rIx d_1 (5 : Int))).bind fun v2 => R.ok (decide (v2 = (1 : Int)))).bind fun v6 => if v6 then ((((rIx d_1 (6 : Int))).bind fun v3 => (rIx ([((8 : Int), (1 : Int)), ((1 : Int), (8 : Int)), ((5 : Int), (2 : Int)), ((2 : Int), (5 : Int))] : List (Int × Int)) v3)).bind fun v4 => R.ok v4) else
  (((m_board cell_here_p (3 : Int))).bind fun v5 => R.ok v5)
abbrev sp_some_board (P : Program) (w : World) (K : PySem.W.Frag) : Sp := spD (K := K) EX (tys1 yInt) (qP (K := K) yCn) (fun a => m_some_board a)
theorem sc_some_board : FnScope ["_law_cell_here", "_law_d"] ["_law_cell_here"] (defScope s_some_board) := ⟨rfl, rfl, rfl, by decide +kernel, rfl, by decide +kernel, by decide +kernel⟩
theorem ok_some_board {P : Program} {w : World} {K : PySem.W.Frag} {mg : Str → Option Value} {base : Heap} {f : Addr} {fd : FuncData} (F : FnP K "_law_some_board" s_some_board f fd) (c_draws : Cal P w K mg base CX 1 "_law_draws" ["_law_cell_here", "_law_sizes"] (sp_draws P w K)) (c_board : Cal P w K mg base CX 2 "_law_board" ["_law_cell_here", "_law_most"] (sp_board P w K)) (oc : OC K) (bt : Bt mg) : FnOk P w K mg base CX 3 f fd ["_law_cell_here"] (sp_some_board P w K) := by
  refine fn_ok F sc_some_board (ent1 rfl) rfl fun cdv A outer s H E hr cell_here_p => ?_
  have sc := sc_some_board
  exact ⟨_, fun c => .rt (qP (K := K) yCn c), DS.cast (m' := m_some_board cell_here_p) (ds_cons (ρ1 := fun (d_1 : (List Int)) => [some (.pl yInt cell_here_p), some (.ow (cLst yInt) d_1)]) (ds_setF (i := 1) sc.nd rfl (.inl rfl) (de_callF c_draws.ok (hr.mono (by decide)) rfl c_draws.mg c_draws.kp c_draws.bd passC (da_cons (de_var (pv 0) rfl) (da_one (DE.fpL (de_lst (T := yInt) (dl_cons (de_c (T := yInt) (a := (8 : Int)) pe_int (fun _ => rfl)) (dl_cons (de_c (T := yInt) (a := (3 : Int)) pe_int (fun _ => rfl)) (dl_cons (de_c (T := yInt) (a := (3 : Int)) pe_int (fun _ => rfl)) (dl_cons (de_c (T := yInt) (a := (4 : Int)) pe_int (fun _ => rfl)) (dl_cons (de_c (T := yInt) (a := (4 : Int)) pe_int (fun _ => rfl)) (dl_cons (de_c (T := yInt) (a := (8 : Int)) pe_int (fun _ => rfl)) (dl_cons (de_c (T := yInt) (a := (4 : Int)) pe_int (fun _ => rfl)) (dl_nil)))))))))))) (imm_cLst imm_int) (wkN rfl))) (fun (d_1 : (List Int)) => ds_ift (DQ.dt (dq_eqI (de_ixL (de_ownL (pv 1) rfl) (de_c (T := yInt) (a := (5 : Int)) pe_int (fun _ => rfl))) (de_c (T := yInt) (a := (1 : Int)) pe_int (fun _ => rfl)))) (ds_one (ds_ret (f := (fun a => a)) (de_ixL (DE.fpL (de_lst (T := yCn) (dl_cons (de_tup (dp_cons (de_c (T := yInt) (a := (8 : Int)) pe_int (fun _ => rfl)) (dp_one (de_c (T := yInt) (a := (1 : Int)) pe_int (fun _ => rfl))))) (dl_cons (de_tup (dp_cons (de_c (T := yInt) (a := (1 : Int)) pe_int (fun _ => rfl)) (dp_one (de_c (T := yInt) (a := (8 : Int)) pe_int (fun _ => rfl))))) (dl_cons (de_tup (dp_cons (de_c (T := yInt) (a := (5 : Int)) pe_int (fun _ => rfl)) (dp_one (de_c (T := yInt) (a := (2 : Int)) pe_int (fun _ => rfl))))) (dl_cons (de_tup (dp_cons (de_c (T := yInt) (a := (2 : Int)) pe_int (fun _ => rfl)) (dp_one (de_c (T := yInt) (a := (5 : Int)) pe_int (fun _ => rfl))))) (dl_nil))))))) (de_ixL (de_ownL (pv 1) rfl) (de_c (T := yInt) (a := (6 : Int)) pe_int (fun _ => rfl)))) (fun _ => rfl))) (fun _ => rfl) (ds_one (ds_ret (f := (fun a => a)) (de_call c_board.ok (hr.mono (by decide)) rfl c_board.mg c_board.kp c_board.bd passC (da_cons (de_var (pv 0) rfl) (da_one (de_c (T := yInt) (a := (3 : Int)) pe_int (fun _ => rfl)))) (imm_tup (imm_C imm_int (imm_1 imm_int))) (wkN rfl)) (fun _ => rfl))))) (by unfold m_some_board; simp only [bo, isIn_dec, andok, orok]), fun _ => .inl rfl⟩
def m_bits (script_p : (List Int)) (k_p : Int) : R Er (List Int) := (((((m_cell script_p k_p)).bind fun v1 => ((rRepL ([(2 : Int)] : List Int) (60 : Int))).bind fun v2 => R.ok (v1, v2)).bind fun v3 => (m_draws v3.1 v3.2)).bind fun v7 => ((((m_cell script_p (k_p + (1 : Int)))).bind fun v4 => ((rRepL ([(2 : Int)] : List Int) (60 : Int))).bind fun v5 => R.ok (v4, v5)).bind fun v6 => (m_draws v6.1 v6.2)).bind fun v8 => (rCatL v7 v8)).bind fun v9 => R.ok v9
abbrev sp_bits (P : Program) (w : World) (K : PySem.W.Frag) : Sp := spD (K := K) EX (tysC (yScr yInt) (tys1 yInt)) (qF (K := K) (cLst yInt)) (fun a => m_bits a.1 a.2)
theorem sc_bits : FnScope ["_law_script", "_law_k"] ["_law_script", "_law_k"] (defScope s_bits) := ⟨rfl, rfl, rfl, by decide +kernel, rfl, by decide +kernel, by decide +kernel⟩
theorem ok_bits {P : Program} {w : World} {K : PySem.W.Frag} {mg : Str → Option Value} {base : Heap} {f : Addr} {fd : FuncData} (F : FnP K "_law_bits" s_bits f fd) (c_cell : Cal P w K mg base CX 1 "_law_cell" ["_law_script", "_law_k"] (sp_cell P w K)) (c_draws : Cal P w K mg base CX 1 "_law_draws" ["_law_cell_here", "_law_sizes"] (sp_draws P w K)) (oc : OC K) (bt : Bt mg) : FnOk P w K mg base CX 2 f fd ["_law_script", "_law_k"] (sp_bits P w K) := by
  refine fn_ok F sc_bits (entC (ent1 rfl)) rfl fun cdv A outer s H E hr a => ?_
  obtain ⟨script_p, k_p⟩ := a
  have sc := sc_bits
  exact ⟨_, fun c => .rt (qF (K := K) (cLst yInt) c), DS.cast (m' := m_bits script_p k_p) (ds_one (ds_retF (f := (fun a => a)) (de_catL imm_int (DE.fpL (de_callF c_draws.ok (hr.mono (by decide)) rfl c_draws.mg c_draws.kp c_draws.bd passC (da_cons (de_call c_cell.ok (hr.mono (by decide)) rfl c_cell.mg c_cell.kp c_cell.bd passC (da_cons (de_var (pv 0) rfl) (da_one (de_var (pv 1) rfl))) imm_int (wkN rfl)) (da_one (DE.fpL (de_rep imm_int (DE.fpL (de_lst (T := yInt) (dl_cons (de_c (T := yInt) (a := (2 : Int)) pe_int (fun _ => rfl)) (dl_nil)))) (de_c (T := yInt) (a := (60 : Int)) pe_int (fun _ => rfl)))))) (imm_cLst imm_int) (wkN rfl))) (DE.fpL (de_callF c_draws.ok (hr.mono (by decide)) rfl c_draws.mg c_draws.kp c_draws.bd passC (da_cons (de_call c_cell.ok (hr.mono (by decide)) rfl c_cell.mg c_cell.kp c_cell.bd passC (da_cons (de_var (pv 0) rfl) (da_one (de_add (de_var (pv 1) rfl) (de_c (T := yInt) (a := (1 : Int)) pe_int (fun _ => rfl))))) imm_int (wkN rfl)) (da_one (DE.fpL (de_rep imm_int (DE.fpL (de_lst (T := yInt) (dl_cons (de_c (T := yInt) (a := (2 : Int)) pe_int (fun _ => rfl)) (dl_nil)))) (de_c (T := yInt) (a := (60 : Int)) pe_int (fun _ => rfl)))))) (imm_cLst imm_int) (wkN rfl)))) (fun _ => rfl))) (by unfold m_bits; simp only [bo, isIn_dec, andok, orok]), fun _ => .inl rfl⟩
def m_pairs (board_here_p : (Int × Int)) : R Er (List (Int × (Int × Int) × (Int × Int))) := (R.ok ([] : List (Int × (Int × Int) × (Int × Int)))).bind fun (found_1 : (List (Int × (Int × Int) × (Int × Int)))) =>
  (((rRng 0 (board_here_p.1 + (1 : Int)))).bind fun v18 => forS (fun (x_2 : Int) (s3 : (List (Int × (Int × Int) × (Int × Int)))) => (((rRng 0 (board_here_p.2 + (1 : Int)))).bind fun v16 => forS (fun (y_4 : Int) (s5 : (List (Int × (Int × Int) × (Int × Int)))) => (((rRng (x_2 + (1 : Int)) (board_here_p.1 + (1 : Int)))).bind fun v14 => forS (fun (u_6 : Int) (s7 : (List (Int × (Int × Int) × (Int × Int)))) => (((rRng 0 (board_here_p.2 + (1 : Int)))).bind fun v12 => forS (fun (v_8 : Int) (s9 : (List (Int × (Int × Int) × (Int × Int)))) => if (!decide (v_8 = y_4)) then (((rApp s9 (((u_6 - x_2) + (if (v_8 - y_4) < 0 then -(v_8 - y_4) else (v_8 - y_4))), (x_2, y_4), (u_6, v_8)))).bind fun (c11 : (Int × (Int × Int) × (Int × Int))) =>
  R.ok (s9 ++ [c11])) else
  (R.ok s9)) v12 s7).bind fun (s13 : (List (Int × (Int × Int) × (Int × Int)))) =>
  R.ok s13) v14 s5).bind fun (s15 : (List (Int × (Int × Int) × (Int × Int)))) =>
  R.ok s15) v16 s3).bind fun (s17 : (List (Int × (Int × Int) × (Int × Int)))) =>
  R.ok s17) v18 found_1).bind fun (s19 : (List (Int × (Int × Int) × (Int × Int)))) =>
  R.ok (sortD (fun (a : (Int × (Int × Int) × (Int × Int))) => (PyData.tuple [(PyData.int a.1), (PyData.tuple [(PyData.int a.2.1.1), (PyData.int a.2.1.2)]), (PyData.tuple [(PyData.int a.2.2.1), (PyData.int a.2.2.2)])])) s19)
abbrev sp_pairs (P : Program) (w : World) (K : PySem.W.Frag) : Sp := spD (K := K) EX (tys1 yCn) (qF (K := K) (cLst (yTup (tysC yInt (tysC yCn (tys1 yCn)))))) (fun a => m_pairs a)
theorem sc_pairs : FnScope ["_law_board_here", "_law_found", "_law_x", "_law_y", "_law_u", "_law_v"] ["_law_board_here"] (defScope s_pairs) := ⟨rfl, rfl, rfl, by decide +kernel, rfl, by decide +kernel, by decide +kernel⟩
theorem ok_pairs {P : Program} {w : World} {K : PySem.W.Frag} {mg : Str → Option Value} {base : Heap} {f : Addr} {fd : FuncData} (F : FnP K "_law_pairs" s_pairs f fd) (oc : OC K) (bt : Bt mg) : FnOk P w K mg base CX 1 f fd ["_law_board_here"] (sp_pairs P w K) := by
  refine fn_ok F sc_pairs (ent1 rfl) rfl fun cdv A outer s H E hr board_here_p => ?_
  have sc := sc_pairs
  exact ⟨_, fun c => .rt (qF (K := K) (cLst (yTup (tysC yInt (tysC yCn (tys1 yCn))))) c), DS.cast (m' := m_pairs board_here_p) (ds_cons (ρ1 := fun (found_1 : (List (Int × (Int × Int) × (Int × Int)))) => [some (.pl yCn board_here_p), some (.ow (cLst (yTup (tysC yInt (tysC yCn (tys1 yCn))))) found_1), none, none, none, none]) (ds_setF (i := 1) sc.nd rfl (.inl rfl) (de_lst (T := (yTup (tysC yInt (tysC yCn (tys1 yCn))))) (dl_nil))) (fun (found_1 : (List (Int × (Int × Int) × (Int × Int)))) => ds_cons (ρ1 := fun (s19 : (List (Int × (Int × Int) × (Int × Int)))) => [some (.pl yCn board_here_p), some (.ow (cLst (yTup (tysC yInt (tysC yCn (tys1 yCn))))) s19), none, none, none, none]) (ds_forS (eH := fun (s3 : (List (Int × (Int × Int) × (Int × Int)))) => [some (.pl yCn board_here_p), some (.ow (cLst (yTup (tysC yInt (tysC yCn (tys1 yCn))))) s3), none, none, none, none]) (eB := fun (s3 : (List (Int × (Int × Int) × (Int × Int)))) (x_2 : Int) => [some (.pl yCn board_here_p), some (.ow (cLst (yTup (tysC yInt (tysC yCn (tys1 yCn))))) s3), some (.pl yInt x_2), none, none, none]) (a0 := found_1) (passes_of rfl) rfl (di_range1 (by rfl) bt.range (de_add (de_nth (de_var (pv 0) rfl) nth_0) (de_c (T := yInt) (a := (1 : Int)) pe_int (fun _ => rfl)))) (.keep (.keep (.keep (.keep (.keep (.keep .nil)))))) (fun (s3 : (List (Int × (Int × Int) × (Int × Int)))) => dg_name (pg_name (i := 2) sc.nd rfl (.inl rfl))) (fun (s3 : (List (Int × (Int × Int) × (Int × Int)))) (x_2 : Int) => ds_cons (ρ1 := fun (s17 : (List (Int × (Int × Int) × (Int × Int)))) => [some (.pl yCn board_here_p), some (.ow (cLst (yTup (tysC yInt (tysC yCn (tys1 yCn))))) s17), some (.pl yInt x_2), none, none, none]) (ds_forS (eH := fun (s5 : (List (Int × (Int × Int) × (Int × Int)))) => [some (.pl yCn board_here_p), some (.ow (cLst (yTup (tysC yInt (tysC yCn (tys1 yCn))))) s5), some (.pl yInt x_2), none, none, none]) (eB := fun (s5 : (List (Int × (Int × Int) × (Int × Int)))) (y_4 : Int) => [some (.pl yCn board_here_p), some (.ow (cLst (yTup (tysC yInt (tysC yCn (tys1 yCn))))) s5), some (.pl yInt x_2), some (.pl yInt y_4), none, none]) (a0 := s3) (passes_of rfl) rfl (di_range1 (by rfl) bt.range (de_add (de_nth (de_var (pv 0) rfl) (nth_s nth_1)) (de_c (T := yInt) (a := (1 : Int)) pe_int (fun _ => rfl)))) (.keep (.keep (.keep (.keep (.keep (.keep .nil)))))) (fun (s5 : (List (Int × (Int × Int) × (Int × Int)))) => dg_name (pg_name (i := 3) sc.nd rfl (.inl rfl))) (fun (s5 : (List (Int × (Int × Int) × (Int × Int)))) (y_4 : Int) => ds_cons (ρ1 := fun (s15 : (List (Int × (Int × Int) × (Int × Int)))) => [some (.pl yCn board_here_p), some (.ow (cLst (yTup (tysC yInt (tysC yCn (tys1 yCn))))) s15), some (.pl yInt x_2), some (.pl yInt y_4), none, none]) (ds_forS (eH := fun (s7 : (List (Int × (Int × Int) × (Int × Int)))) => [some (.pl yCn board_here_p), some (.ow (cLst (yTup (tysC yInt (tysC yCn (tys1 yCn))))) s7), some (.pl yInt x_2), some (.pl yInt y_4), none, none]) (eB := fun (s7 : (List (Int × (Int × Int) × (Int × Int)))) (u_6 : Int) => [some (.pl yCn board_here_p), some (.ow (cLst (yTup (tysC yInt (tysC yCn (tys1 yCn))))) s7), some (.pl yInt x_2), some (.pl yInt y_4), some (.pl yInt u_6), none]) (a0 := s5) (passes_of rfl) rfl (di_range2 (by rfl) bt.range (de_add (de_var (pv 2) rfl) (de_c (T := yInt) (a := (1 : Int)) pe_int (fun _ => rfl))) (de_add (de_nth (de_var (pv 0) rfl) nth_0) (de_c (T := yInt) (a := (1 : Int)) pe_int (fun _ => rfl)))) (.keep (.keep (.keep (.keep (.keep (.keep .nil)))))) (fun (s7 : (List (Int × (Int × Int) × (Int × Int)))) => dg_name (pg_name (i := 4) sc.nd rfl (.inl rfl))) (fun (s7 : (List (Int × (Int × Int) × (Int × Int)))) (u_6 : Int) => ds_cons (ρ1 := fun (s13 : (List (Int × (Int × Int) × (Int × Int)))) => [some (.pl yCn board_here_p), some (.ow (cLst (yTup (tysC yInt (tysC yCn (tys1 yCn))))) s13), some (.pl yInt x_2), some (.pl yInt y_4), some (.pl yInt u_6), none]) (ds_forS (eH := fun (s9 : (List (Int × (Int × Int) × (Int × Int)))) => [some (.pl yCn board_here_p), some (.ow (cLst (yTup (tysC yInt (tysC yCn (tys1 yCn))))) s9), some (.pl yInt x_2), some (.pl yInt y_4), some (.pl yInt u_6), none]) (eB := fun (s9 : (List (Int × (Int × Int) × (Int × Int)))) (v_8 : Int) => [some (.pl yCn board_here_p), some (.ow (cLst (yTup (tysC yInt (tysC yCn (tys1 yCn))))) s9), some (.pl yInt x_2), some (.pl yInt y_4), some (.pl yInt u_6), some (.pl yInt v_8)]) (a0 := s7) (passes_of rfl) rfl (di_range1 (by rfl) bt.range (de_add (de_nth (de_var (pv 0) rfl) (nth_s nth_1)) (de_c (T := yInt) (a := (1 : Int)) pe_int (fun _ => rfl)))) (.keep (.keep (.keep (.keep (.keep (.keep .nil)))))) (fun (s9 : (List (Int × (Int × Int) × (Int × Int)))) => dg_name (pg_name (i := 5) sc.nd rfl (.inl rfl))) (fun (s9 : (List (Int × (Int × Int) × (Int × Int)))) (v_8 : Int) => ds_one (ds_if1 (DQ.dt (dq_neI (de_var (pv 5) rfl) (de_var (pv 3) rfl))) (ds_cons (ρ1 := fun (c11 : (Int × (Int × Int) × (Int × Int))) => [some (.pl yCn board_here_p), some (.ow (cLst (yTup (tysC yInt (tysC yCn (tys1 yCn))))) (s9 ++ [c11])), some (.pl yInt x_2), some (.pl yInt y_4), some (.pl yInt u_6), some (.pl yInt v_8)]) (ds_append (pv 1) rfl (de_tup (dp_cons (de_add (de_sub (de_var (pv 4) rfl) (de_var (pv 2) rfl)) (de_abs rfl bt.abs (de_sub (de_var (pv 5) rfl) (de_var (pv 3) rfl)))) (dp_cons (de_tup (dp_cons (de_var (pv 2) rfl) (dp_one (de_var (pv 3) rfl)))) (dp_one (de_tup (dp_cons (de_var (pv 4) rfl) (dp_one (de_var (pv 5) rfl))))))))) (fun (c11 : (Int × (Int × Int) × (Int × Int))) => ds_nil (c := (s9 ++ [c11])) (by first | exact .inl rfl | exact .inr rfl) (.keep (.keep (.keep (.keep (.keep (.drop .nil)))))))) (ds_nil (c := s9) (by first | exact .inl rfl | exact .inr rfl) (.keep (.keep (.keep (.keep (.keep (.drop .nil)))))))))) (fun (s13 : (List (Int × (Int × Int) × (Int × Int)))) => ds_nil (c := s13) (by first | exact .inl rfl | exact .inr rfl) (.keep (.keep (.keep (.keep (.drop (.keep .nil))))))))) (fun (s15 : (List (Int × (Int × Int) × (Int × Int)))) => ds_nil (c := s15) (by first | exact .inl rfl | exact .inr rfl) (.keep (.keep (.keep (.drop (.keep (.keep .nil))))))))) (fun (s17 : (List (Int × (Int × Int) × (Int × Int)))) => ds_nil (c := s17) (by first | exact .inl rfl | exact .inr rfl) (.keep (.keep (.drop (.keep (.keep (.keep .nil))))))))) (fun (s19 : (List (Int × (Int × Int) × (Int × Int)))) => ds_one (ds_retF (f := (fun a => a)) (de_sortedD (P := (pTup (psC pInt (psC (pTup (psC pInt (ps1 pInt))) (ps1 (pTup (psC pInt (ps1 pInt)))))))) (py := (fun (a : (Int × (Int × Int) × (Int × Int))) => (PyData.tuple [(PyData.int a.1), (PyData.tuple [(PyData.int a.2.1.1), (PyData.int a.2.1.2)]), (PyData.tuple [(PyData.int a.2.2.1), (PyData.int a.2.2.2)])]))) (fun _ => rfl) (fun _ _ => rfl) (fun _ => ⟨_, _, rfl⟩) (imm_tup (imm_C imm_int (imm_C (imm_tup (imm_C imm_int (imm_1 imm_int))) (imm_1 (imm_tup (imm_C imm_int (imm_1 imm_int))))))) (u64 hr) rfl bt.sorted (de_ownL (pv 1) rfl)) (fun _ => rfl))))) (by unfold m_pairs; simp only [bo, isIn_dec, andok, orok]), fun _ => .inl rfl⟩
def m_moved (corner_p : (Int × Int)) (letter_here_p : PySem.Str) : R Er (Int × Int) := if (decide (letter_here_p = ("E" : PySem.Str))) then (R.ok ((corner_p.1 + (1 : Int)), corner_p.2)) else
  (if (decide (letter_here_p = ("N" : PySem.Str))) then (R.ok (corner_p.1, (corner_p.2 + (1 : Int)))) else
  (R.ok (corner_p.1, (corner_p.2 - (1 : Int)))))
abbrev sp_moved (P : Program) (w : World) (K : PySem.W.Frag) : Sp := spD (K := K) EX (tysC yCn (tys1 yStr)) (qP (K := K) yCn) (fun a => m_moved a.1 a.2)
theorem sc_moved : FnScope ["_law_corner", "_law_letter_here"] ["_law_corner", "_law_letter_here"] (defScope s_moved) := ⟨rfl, rfl, rfl, by decide +kernel, rfl, by decide +kernel, by decide +kernel⟩
theorem ok_moved {P : Program} {w : World} {K : PySem.W.Frag} {mg : Str → Option Value} {base : Heap} {f : Addr} {fd : FuncData} (F : FnP K "_law_moved" s_moved f fd) (oc : OC K) (bt : Bt mg) : FnOk P w K mg base CX 1 f fd ["_law_corner", "_law_letter_here"] (sp_moved P w K) := by
  refine fn_ok F sc_moved (entC (ent1 rfl)) rfl fun cdv A outer s H E hr a => ?_
  obtain ⟨corner_p, letter_here_p⟩ := a
  have sc := sc_moved
  exact ⟨_, fun c => .rt (qP (K := K) yCn c), DS.cast (m' := m_moved corner_p letter_here_p) (ds_ift (DQ.dt (dq_eqS (de_var (pv 1) rfl) (de_c (T := yStr) (a := ("E" : PySem.Str)) pe_str (fun _ => ⟨rfl, by decide +kernel⟩)))) (ds_one (ds_ret (f := (fun a => a)) (de_tup (dp_cons (de_add (de_nth (de_var (pv 0) rfl) nth_0) (de_c (T := yInt) (a := (1 : Int)) pe_int (fun _ => rfl))) (dp_one (de_nth (de_var (pv 0) rfl) (nth_s nth_1))))) (fun _ => rfl))) (fun _ => rfl) (ds_ift (DQ.dt (dq_eqS (de_var (pv 1) rfl) (de_c (T := yStr) (a := ("N" : PySem.Str)) pe_str (fun _ => ⟨rfl, by decide +kernel⟩)))) (ds_one (ds_ret (f := (fun a => a)) (de_tup (dp_cons (de_nth (de_var (pv 0) rfl) nth_0) (dp_one (de_add (de_nth (de_var (pv 0) rfl) (nth_s nth_1)) (de_c (T := yInt) (a := (1 : Int)) pe_int (fun _ => rfl)))))) (fun _ => rfl))) (fun _ => rfl) (ds_one (ds_ret (f := (fun a => a)) (de_tup (dp_cons (de_nth (de_var (pv 0) rfl) nth_0) (dp_one (de_sub (de_nth (de_var (pv 0) rfl) (nth_s nth_1)) (de_c (T := yInt) (a := (1 : Int)) pe_int (fun _ => rfl)))))) (fun _ => rfl))))) (by unfold m_moved; simp only [bo, isIn_dec, andok, orok]), fun _ => .inl rfl⟩
def m_letter (table_p : (List (((Int × Int) × (Int × Int)) × PySem.Str))) (p_p : (Int × Int)) (q_p : (Int × Int)) : R Er PySem.Str := if (decide (p_p.2 = q_p.2)) then (R.ok ("E" : PySem.Str)) else
  (if (decide (p_p.1 = q_p.1)) then (if (decide (p_p.2 < q_p.2)) then (R.ok ("N" : PySem.Str)) else
  (R.ok ("S" : PySem.Str))) else
  (((rGet table_p (p_p, q_p))).bind fun v1 => R.ok v1))
abbrev sp_letter (P : Program) (w : World) (K : PySem.W.Frag) : Sp := spD (K := K) EX (tysC (yDic P w (kTup (ksC (kTup (ksC kInt (ks1 kInt))) (ks1 (kTup (ksC kInt (ks1 kInt)))))) yStr) (tysC yCn (tys1 yCn))) (qP (K := K) yStr) (fun a => m_letter a.1 a.2.1 a.2.2)
theorem sc_letter : FnScope ["_law_table", "_law_p", "_law_q"] ["_law_table", "_law_p", "_law_q"] (defScope s_letter) := ⟨rfl, rfl, rfl, by decide +kernel, rfl, by decide +kernel, by decide +kernel⟩
theorem ok_letter {P : Program} {w : World} {K : PySem.W.Frag} {mg : Str → Option Value} {base : Heap} {f : Addr} {fd : FuncData} (F : FnP K "_law_letter" s_letter f fd) (oc : OC K) (bt : Bt mg) : FnOk P w K mg base CX 1 f fd ["_law_table", "_law_p", "_law_q"] (sp_letter P w K) := by
  refine fn_ok F sc_letter (entC (entC (ent1 rfl))) rfl fun cdv A outer s H E hr a => ?_
  obtain ⟨table_p, p_p, q_p⟩ := a
  have sc := sc_letter
  exact ⟨_, fun c => .rt (qP (K := K) yStr c), DS.cast (m' := m_letter table_p p_p q_p) (ds_ift (DQ.dt (dq_eqI (de_nth (de_var (pv 1) rfl) (nth_s nth_1)) (de_nth (de_var (pv 2) rfl) (nth_s nth_1)))) (ds_one (ds_ret (f := (fun a => a)) (de_c (T := yStr) (a := ("E" : PySem.Str)) pe_str (fun _ => ⟨rfl, by decide +kernel⟩)) (fun _ => rfl))) (fun _ => rfl) (ds_ift (DQ.dt (dq_eqI (de_nth (de_var (pv 1) rfl) nth_0) (de_nth (de_var (pv 2) rfl) nth_0))) (ds_ift (DQ.dt (dq_lt (de_nth (de_var (pv 1) rfl) (nth_s nth_1)) (de_nth (de_var (pv 2) rfl) (nth_s nth_1)))) (ds_one (ds_ret (f := (fun a => a)) (de_c (T := yStr) (a := ("N" : PySem.Str)) pe_str (fun _ => ⟨rfl, by decide +kernel⟩)) (fun _ => rfl))) (fun _ => rfl) (ds_one (ds_ret (f := (fun a => a)) (de_c (T := yStr) (a := ("S" : PySem.Str)) pe_str (fun _ => ⟨rfl, by decide +kernel⟩)) (fun _ => rfl)))) (fun _ => rfl) (ds_one (ds_ret (f := (fun a => a)) (de_getN ar_tup (u64 hr) (de_var (pv 0) rfl) (de_tup (dp_cons (de_var (pv 1) rfl) (dp_one (de_var (pv 2) rfl))))) (fun _ => rfl))))) (by unfold m_letter; simp only [bo, isIn_dec, andok, orok]), fun _ => .inl rfl⟩
def m_walk (table_p : (List (((Int × Int) × (Int × Int)) × PySem.Str))) (p_p : (Int × Int)) (q_p : (Int × Int)) : R Er (List (Int × Int)) := (R.ok ([p_p] : List (Int × Int))).bind fun (walked_1 : (List (Int × Int))) =>
  (((rRng 0 (40 : Int))).bind fun v9 => forB (fun (k_2 : Int) (s3 : ((Int × Int) × (List (Int × Int)))) => if (decide (s3.1 = q_p)) then (R.ok (.inr (s3.1, s3.2))) else
  (((((m_letter table_p s3.1 q_p)).bind fun v5 => R.ok (s3.1, v5)).bind fun v6 => (m_moved v6.1 v6.2)).bind fun (p_4 : (Int × Int)) =>
  ((rApp s3.2 p_4)).bind fun (c8 : (Int × Int)) =>
  R.ok (.inl (p_4, (s3.2 ++ [c8]))))) v9 (p_p, walked_1)).bind fun (s10 : ((Int × Int) × (List (Int × Int)))) =>
  R.ok s10.2
abbrev sp_walk (P : Program) (w : World) (K : PySem.W.Frag) : Sp := spD (K := K) EX (tysC (yDic P w (kTup (ksC (kTup (ksC kInt (ks1 kInt))) (ks1 (kTup (ksC kInt (ks1 kInt)))))) yStr) (tysC yCn (tys1 yCn))) (qF (K := K) (cLst yCn)) (fun a => m_walk a.1 a.2.1 a.2.2)
theorem sc_walk : FnScope ["_law_table", "_law_p", "_law_q", "_law_walked", "_law_k"] ["_law_table", "_law_p", "_law_q"] (defScope s_walk) := ⟨rfl, rfl, rfl, by decide +kernel, rfl, by decide +kernel, by decide +kernel⟩
theorem ok_walk {P : Program} {w : World} {K : PySem.W.Frag} {mg : Str → Option Value} {base : Heap} {f : Addr} {fd : FuncData} (F : FnP K "_law_walk" s_walk f fd) (c_letter : Cal P w K mg base CX 1 "_law_letter" ["_law_table", "_law_p", "_law_q"] (sp_letter P w K)) (c_moved : Cal P w K mg base CX 1 "_law_moved" ["_law_corner", "_law_letter_here"] (sp_moved P w K)) (oc : OC K) (bt : Bt mg) : FnOk P w K mg base CX 2 f fd ["_law_table", "_law_p", "_law_q"] (sp_walk P w K) := by
  refine fn_ok F sc_walk (entC (entC (ent1 rfl))) rfl fun cdv A outer s H E hr a => ?_
  obtain ⟨table_p, p_p, q_p⟩ := a
  have sc := sc_walk
  exact ⟨_, fun c => .rt (qF (K := K) (cLst yCn) c), DS.cast (m' := m_walk table_p p_p q_p) (ds_cons (ρ1 := fun (walked_1 : (List (Int × Int))) => [some (.pl (yDic P w (kTup (ksC (kTup (ksC kInt (ks1 kInt))) (ks1 (kTup (ksC kInt (ks1 kInt)))))) yStr) table_p), some (.pl yCn p_p), some (.pl yCn q_p), some (.ow (cLst yCn) walked_1), none]) (ds_setF (i := 3) sc.nd rfl (.inl rfl) (de_lst (T := yCn) (dl_cons (de_var (pv 1) rfl) (dl_nil)))) (fun (walked_1 : (List (Int × Int))) => ds_cons (ρ1 := fun (s10 : ((Int × Int) × (List (Int × Int)))) => [some (.pl (yDic P w (kTup (ksC (kTup (ksC kInt (ks1 kInt))) (ks1 (kTup (ksC kInt (ks1 kInt)))))) yStr) table_p), some (.pl yCn s10.1), some (.pl yCn q_p), some (.ow (cLst yCn) s10.2), none]) (ds_forB (eH := fun (s3 : ((Int × Int) × (List (Int × Int)))) => [some (.pl (yDic P w (kTup (ksC (kTup (ksC kInt (ks1 kInt))) (ks1 (kTup (ksC kInt (ks1 kInt)))))) yStr) table_p), some (.pl yCn s3.1), some (.pl yCn q_p), some (.ow (cLst yCn) s3.2), none]) (eB := fun (s3 : ((Int × Int) × (List (Int × Int)))) (k_2 : Int) => [some (.pl (yDic P w (kTup (ksC (kTup (ksC kInt (ks1 kInt))) (ks1 (kTup (ksC kInt (ks1 kInt)))))) yStr) table_p), some (.pl yCn s3.1), some (.pl yCn q_p), some (.ow (cLst yCn) s3.2), some (.pl yInt k_2)]) (a0 := (p_p, walked_1)) (passes_of rfl) rfl (di_range1 (by rfl) bt.range (de_c (T := yInt) (a := (40 : Int)) pe_int (fun _ => rfl))) (.keep (.keep (.keep (.keep (.keep .nil))))) (fun (s3 : ((Int × Int) × (List (Int × Int)))) => dg_name (pg_name (i := 4) sc.nd rfl (.inl rfl))) (fun (s3 : ((Int × Int) × (List (Int × Int)))) (k_2 : Int) => ds_ift (DQ.dt (dq_eq (q_tup (q_C q_int (q_1 q_int))) (u64 hr) (lo rfl) (lo rfl) (de_var (pv 1) rfl) (de_var (pv 2) rfl))) (ds_one (ds_break (c := (.inr (s3.1, s3.2))) rfl (.keep (.keep (.keep (.keep (.drop .nil))))))) (fun x => by cases x <;> rfl) (ds_cons (ρ1 := fun (p_4 : (Int × Int)) => [some (.pl (yDic P w (kTup (ksC (kTup (ksC kInt (ks1 kInt))) (ks1 (kTup (ksC kInt (ks1 kInt)))))) yStr) table_p), some (.pl yCn p_4), some (.pl yCn q_p), some (.ow (cLst yCn) s3.2), some (.pl yInt k_2)]) (ds_set (i := 1) sc.nd rfl (.inl rfl) (de_call c_moved.ok (hr.mono (by decide)) rfl c_moved.mg c_moved.kp c_moved.bd passC (da_cons (de_var (pv 1) rfl) (da_one (de_call c_letter.ok (hr.mono (by decide)) rfl c_letter.mg c_letter.kp c_letter.bd passC (da_cons (de_var (pv 0) rfl) (da_cons (de_var (pv 1) rfl) (da_one (de_var (pv 2) rfl)))) imm_str (wkN rfl)))) (imm_tup (imm_C imm_int (imm_1 imm_int))) (wkN rfl))) (fun (p_4 : (Int × Int)) => ds_cons (ρ1 := fun (c8 : (Int × Int)) => [some (.pl (yDic P w (kTup (ksC (kTup (ksC kInt (ks1 kInt))) (ks1 (kTup (ksC kInt (ks1 kInt)))))) yStr) table_p), some (.pl yCn p_4), some (.pl yCn q_p), some (.ow (cLst yCn) (s3.2 ++ [c8])), some (.pl yInt k_2)]) (ds_append (pv 3) rfl (de_var (pv 1) rfl)) (fun (c8 : (Int × Int)) => ds_nil (c := (.inl (p_4, (s3.2 ++ [c8])))) (by first | exact .inl rfl | exact .inr rfl) (.keep (.keep (.keep (.keep (.drop .nil)))))))))) (fun (s10 : ((Int × Int) × (List (Int × Int)))) => ds_one (ds_retO (c := s10.2) (pv 3) rfl rfl)))) (by unfold m_walk; simp only [bo, isIn_dec, andok, orok]), fun _ => .inl rfl⟩
def m_texts (board_here_p : (Int × Int)) (table_p : (List (((Int × Int) × (Int × Int)) × PySem.Str))) : R Er (PySem.Str × PySem.Str) := (R.ok ("" : PySem.Str)).bind fun (upward_1 : PySem.Str) =>
  (R.ok ("" : PySem.Str)).bind fun (downward_2 : PySem.Str) =>
  (((rRng 0 (board_here_p.1 + (1 : Int)))).bind fun v22 => forS (fun (x_3 : Int) (s4 : (PySem.Str × PySem.Str)) => (((rRng 0 (board_here_p.2 + (1 : Int)))).bind fun v20 => forS (fun (y_5 : Int) (s6 : (PySem.Str × PySem.Str)) => (((rRng (x_3 + (1 : Int)) (board_here_p.1 + (1 : Int)))).bind fun v18 => forS (fun (u_7 : Int) (s8 : (PySem.Str × PySem.Str)) => (((rRng 0 (board_here_p.2 + (1 : Int)))).bind fun v16 => forS (fun (v_9 : Int) (s10 : (PySem.Str × PySem.Str)) => (if (decide (y_5 < v_9)) then ((((rGet table_p ((x_3, y_5), (u_7, v_9)))).bind fun v13 => (rAddS s10.1 v13)).bind fun (upward_12 : PySem.Str) =>
  R.ok upward_12) else
  (R.ok s10.1)).bind fun (s11 : PySem.Str) =>
  if (decide (v_9 < y_5)) then ((((rGet table_p ((x_3, y_5), (u_7, v_9)))).bind fun v15 => (rAddS s10.2 v15)).bind fun (downward_14 : PySem.Str) =>
  R.ok (s11, downward_14)) else
  (R.ok (s11, s10.2))) v16 (s8.1, s8.2)).bind fun (s17 : (PySem.Str × PySem.Str)) =>
  R.ok (s17.1, s17.2)) v18 (s6.1, s6.2)).bind fun (s19 : (PySem.Str × PySem.Str)) =>
  R.ok (s19.1, s19.2)) v20 (s4.1, s4.2)).bind fun (s21 : (PySem.Str × PySem.Str)) =>
  R.ok (s21.1, s21.2)) v22 (upward_1, downward_2)).bind fun (s23 : (PySem.Str × PySem.Str)) =>
  R.ok (s23.1, s23.2)
abbrev sp_texts (P : Program) (w : World) (K : PySem.W.Frag) : Sp := spD (K := K) EX (tysC yCn (tys1 (yDic P w (kTup (ksC (kTup (ksC kInt (ks1 kInt))) (ks1 (kTup (ksC kInt (ks1 kInt)))))) yStr))) (qP (K := K) (yTup (tysC yStr (tys1 yStr)))) (fun a => m_texts a.1 a.2)
theorem sc_texts : FnScope ["_law_board_here", "_law_table", "_law_upward", "_law_downward", "_law_x", "_law_y", "_law_u", "_law_v"] ["_law_board_here", "_law_table"] (defScope s_texts) := ⟨rfl, rfl, rfl, by decide +kernel, rfl, by decide +kernel, by decide +kernel⟩
theorem ok_texts {P : Program} {w : World} {K : PySem.W.Frag} {mg : Str → Option Value} {base : Heap} {f : Addr} {fd : FuncData} (F : FnP K "_law_texts" s_texts f fd) (oc : OC K) (bt : Bt mg) : FnOk P w K mg base CX 1 f fd ["_law_board_here", "_law_table"] (sp_texts P w K) := by
  refine fn_ok F sc_texts (entC (ent1 rfl)) rfl fun cdv A outer s H E hr a => ?_
  obtain ⟨board_here_p, table_p⟩ := a
  have sc := sc_texts
  exact ⟨_, fun c => .rt (qP (K := K) (yTup (tysC yStr (tys1 yStr))) c), DS.cast (m' := m_texts board_here_p table_p) (ds_cons (ρ1 := fun (upward_1 : PySem.Str) => [some (.pl yCn board_here_p), some (.pl (yDic P w (kTup (ksC (kTup (ksC kInt (ks1 kInt))) (ks1 (kTup (ksC kInt (ks1 kInt)))))) yStr) table_p), some (.pl yStr upward_1), none, none, none, none, none]) (ds_set (i := 2) sc.nd rfl (.inl rfl) (de_c (T := yStr) (a := ("" : PySem.Str)) pe_str (fun _ => ⟨rfl, by decide +kernel⟩))) (fun (upward_1 : PySem.Str) => ds_cons (ρ1 := fun (downward_2 : PySem.Str) => [some (.pl yCn board_here_p), some (.pl (yDic P w (kTup (ksC (kTup (ksC kInt (ks1 kInt))) (ks1 (kTup (ksC kInt (ks1 kInt)))))) yStr) table_p), some (.pl yStr upward_1), some (.pl yStr downward_2), none, none, none, none]) (ds_set (i := 3) sc.nd rfl (.inl rfl) (de_c (T := yStr) (a := ("" : PySem.Str)) pe_str (fun _ => ⟨rfl, by decide +kernel⟩))) (fun (downward_2 : PySem.Str) => ds_cons (ρ1 := fun (s23 : (PySem.Str × PySem.Str)) => [some (.pl yCn board_here_p), some (.pl (yDic P w (kTup (ksC (kTup (ksC kInt (ks1 kInt))) (ks1 (kTup (ksC kInt (ks1 kInt)))))) yStr) table_p), some (.pl yStr s23.1), some (.pl yStr s23.2), none, none, none, none]) (ds_forS (eH := fun (s4 : (PySem.Str × PySem.Str)) => [some (.pl yCn board_here_p), some (.pl (yDic P w (kTup (ksC (kTup (ksC kInt (ks1 kInt))) (ks1 (kTup (ksC kInt (ks1 kInt)))))) yStr) table_p), some (.pl yStr s4.1), some (.pl yStr s4.2), none, none, none, none]) (eB := fun (s4 : (PySem.Str × PySem.Str)) (x_3 : Int) => [some (.pl yCn board_here_p), some (.pl (yDic P w (kTup (ksC (kTup (ksC kInt (ks1 kInt))) (ks1 (kTup (ksC kInt (ks1 kInt)))))) yStr) table_p), some (.pl yStr s4.1), some (.pl yStr s4.2), some (.pl yInt x_3), none, none, none]) (a0 := (upward_1, downward_2)) (passes_of rfl) rfl (di_range1 (by rfl) bt.range (de_add (de_nth (de_var (pv 0) rfl) nth_0) (de_c (T := yInt) (a := (1 : Int)) pe_int (fun _ => rfl)))) (.keep (.keep (.keep (.keep (.keep (.keep (.keep (.keep .nil)))))))) (fun (s4 : (PySem.Str × PySem.Str)) => dg_name (pg_name (i := 4) sc.nd rfl (.inl rfl))) (fun (s4 : (PySem.Str × PySem.Str)) (x_3 : Int) => ds_cons (ρ1 := fun (s21 : (PySem.Str × PySem.Str)) => [some (.pl yCn board_here_p), some (.pl (yDic P w (kTup (ksC (kTup (ksC kInt (ks1 kInt))) (ks1 (kTup (ksC kInt (ks1 kInt)))))) yStr) table_p), some (.pl yStr s21.1), some (.pl yStr s21.2), some (.pl yInt x_3), none, none, none]) (ds_forS (eH := fun (s6 : (PySem.Str × PySem.Str)) => [some (.pl yCn board_here_p), some (.pl (yDic P w (kTup (ksC (kTup (ksC kInt (ks1 kInt))) (ks1 (kTup (ksC kInt (ks1 kInt)))))) yStr) table_p), some (.pl yStr s6.1), some (.pl yStr s6.2), some (.pl yInt x_3), none, none, none]) (eB := fun (s6 : (PySem.Str × PySem.Str)) (y_5 : Int) => [some (.pl yCn board_here_p), some (.pl (yDic P w (kTup (ksC (kTup (ksC kInt (ks1 kInt))) (ks1 (kTup (ksC kInt (ks1 kInt)))))) yStr) table_p), some (.pl yStr s6.1), some (.pl yStr s6.2), some (.pl yInt x_3), some (.pl yInt y_5), none, none]) (a0 := (s4.1, s4.2)) (passes_of rfl) rfl (di_range1 (by rfl) bt.range (de_add (de_nth (de_var (pv 0) rfl) (nth_s nth_1)) (de_c (T := yInt) (a := (1 : Int)) pe_int (fun _ => rfl)))) (.keep (.keep (.keep (.keep (.keep (.keep (.keep (.keep .nil)))))))) (fun (s6 : (PySem.Str × PySem.Str)) => dg_name (pg_name (i := 5) sc.nd rfl (.inl rfl))) (fun (s6 : (PySem.Str × PySem.Str)) (y_5 : Int) => ds_cons (ρ1 := fun (s19 : (PySem.Str × PySem.Str)) => [some (.pl yCn board_here_p), some (.pl (yDic P w (kTup (ksC (kTup (ksC kInt (ks1 kInt))) (ks1 (kTup (ksC kInt (ks1 kInt)))))) yStr) table_p), some (.pl yStr s19.1), some (.pl yStr s19.2), some (.pl yInt x_3), some (.pl yInt y_5), none, none]) (ds_forS (eH := fun (s8 : (PySem.Str × PySem.Str)) => [some (.pl yCn board_here_p), some (.pl (yDic P w (kTup (ksC (kTup (ksC kInt (ks1 kInt))) (ks1 (kTup (ksC kInt (ks1 kInt)))))) yStr) table_p), some (.pl yStr s8.1), some (.pl yStr s8.2), some (.pl yInt x_3), some (.pl yInt y_5), none, none]) (eB := fun (s8 : (PySem.Str × PySem.Str)) (u_7 : Int) => [some (.pl yCn board_here_p), some (.pl (yDic P w (kTup (ksC (kTup (ksC kInt (ks1 kInt))) (ks1 (kTup (ksC kInt (ks1 kInt)))))) yStr) table_p), some (.pl yStr s8.1), some (.pl yStr s8.2), some (.pl yInt x_3), some (.pl yInt y_5), some (.pl yInt u_7), none]) (a0 := (s6.1, s6.2)) (passes_of rfl) rfl (di_range2 (by rfl) bt.range (de_add (de_var (pv 4) rfl) (de_c (T := yInt) (a := (1 : Int)) pe_int (fun _ => rfl))) (de_add (de_nth (de_var (pv 0) rfl) nth_0) (de_c (T := yInt) (a := (1 : Int)) pe_int (fun _ => rfl)))) (.keep (.keep (.keep (.keep (.keep (.keep (.keep (.keep .nil)))))))) (fun (s8 : (PySem.Str × PySem.Str)) => dg_name (pg_name (i := 6) sc.nd rfl (.inl rfl))) (fun (s8 : (PySem.Str × PySem.Str)) (u_7 : Int) => ds_cons (ρ1 := fun (s17 : (PySem.Str × PySem.Str)) => [some (.pl yCn board_here_p), some (.pl (yDic P w (kTup (ksC (kTup (ksC kInt (ks1 kInt))) (ks1 (kTup (ksC kInt (ks1 kInt)))))) yStr) table_p), some (.pl yStr s17.1), some (.pl yStr s17.2), some (.pl yInt x_3), some (.pl yInt y_5), some (.pl yInt u_7), none]) (ds_forS (eH := fun (s10 : (PySem.Str × PySem.Str)) => [some (.pl yCn board_here_p), some (.pl (yDic P w (kTup (ksC (kTup (ksC kInt (ks1 kInt))) (ks1 (kTup (ksC kInt (ks1 kInt)))))) yStr) table_p), some (.pl yStr s10.1), some (.pl yStr s10.2), some (.pl yInt x_3), some (.pl yInt y_5), some (.pl yInt u_7), none]) (eB := fun (s10 : (PySem.Str × PySem.Str)) (v_9 : Int) => [some (.pl yCn board_here_p), some (.pl (yDic P w (kTup (ksC (kTup (ksC kInt (ks1 kInt))) (ks1 (kTup (ksC kInt (ks1 kInt)))))) yStr) table_p), some (.pl yStr s10.1), some (.pl yStr s10.2), some (.pl yInt x_3), some (.pl yInt y_5), some (.pl yInt u_7), some (.pl yInt v_9)]) (a0 := (s8.1, s8.2)) (passes_of rfl) rfl (di_range1 (by rfl) bt.range (de_add (de_nth (de_var (pv 0) rfl) (nth_s nth_1)) (de_c (T := yInt) (a := (1 : Int)) pe_int (fun _ => rfl)))) (.keep (.keep (.keep (.keep (.keep (.keep (.keep (.keep .nil)))))))) (fun (s10 : (PySem.Str × PySem.Str)) => dg_name (pg_name (i := 7) sc.nd rfl (.inl rfl))) (fun (s10 : (PySem.Str × PySem.Str)) (v_9 : Int) => ds_cons (ρ1 := fun (s11 : PySem.Str) => [some (.pl yCn board_here_p), some (.pl (yDic P w (kTup (ksC (kTup (ksC kInt (ks1 kInt))) (ks1 (kTup (ksC kInt (ks1 kInt)))))) yStr) table_p), some (.pl yStr s11), some (.pl yStr s10.2), some (.pl yInt x_3), some (.pl yInt y_5), some (.pl yInt u_7), some (.pl yInt v_9)]) (ds_if1 (DQ.dt (dq_gt (de_var (pv 7) rfl) (de_var (pv 5) rfl))) (ds_cons (ρ1 := fun (upward_12 : PySem.Str) => [some (.pl yCn board_here_p), some (.pl (yDic P w (kTup (ksC (kTup (ksC kInt (ks1 kInt))) (ks1 (kTup (ksC kInt (ks1 kInt)))))) yStr) table_p), some (.pl yStr upward_12), some (.pl yStr s10.2), some (.pl yInt x_3), some (.pl yInt y_5), some (.pl yInt u_7), some (.pl yInt v_9)]) (ds_set (i := 2) sc.nd rfl (.inl rfl) (de_addS (de_var (pv 2) rfl) (de_getN ar_tup (u64 hr) (de_var (pv 1) rfl) (de_tup (dp_cons (de_tup (dp_cons (de_var (pv 4) rfl) (dp_one (de_var (pv 5) rfl)))) (dp_one (de_tup (dp_cons (de_var (pv 6) rfl) (dp_one (de_var (pv 7) rfl)))))))))) (fun (upward_12 : PySem.Str) => ds_nil (c := upward_12) (by first | exact .inl rfl | exact .inr rfl) (.keep (.keep (.keep (.keep (.keep (.keep (.keep (.keep .nil)))))))))) (ds_nil (c := s10.1) (by first | exact .inl rfl | exact .inr rfl) (.keep (.keep (.keep (.keep (.keep (.keep (.keep (.keep .nil)))))))))) (fun (s11 : PySem.Str) => ds_one (ds_if1 (DQ.dt (dq_lt (de_var (pv 7) rfl) (de_var (pv 5) rfl))) (ds_cons (ρ1 := fun (downward_14 : PySem.Str) => [some (.pl yCn board_here_p), some (.pl (yDic P w (kTup (ksC (kTup (ksC kInt (ks1 kInt))) (ks1 (kTup (ksC kInt (ks1 kInt)))))) yStr) table_p), some (.pl yStr s11), some (.pl yStr downward_14), some (.pl yInt x_3), some (.pl yInt y_5), some (.pl yInt u_7), some (.pl yInt v_9)]) (ds_set (i := 3) sc.nd rfl (.inl rfl) (de_addS (de_var (pv 3) rfl) (de_getN ar_tup (u64 hr) (de_var (pv 1) rfl) (de_tup (dp_cons (de_tup (dp_cons (de_var (pv 4) rfl) (dp_one (de_var (pv 5) rfl)))) (dp_one (de_tup (dp_cons (de_var (pv 6) rfl) (dp_one (de_var (pv 7) rfl)))))))))) (fun (downward_14 : PySem.Str) => ds_nil (c := (s11, downward_14)) (by first | exact .inl rfl | exact .inr rfl) (.keep (.keep (.keep (.keep (.keep (.keep (.keep (.drop .nil)))))))))) (ds_nil (c := (s11, s10.2)) (by first | exact .inl rfl | exact .inr rfl) (.keep (.keep (.keep (.keep (.keep (.keep (.keep (.drop .nil))))))))))))) (fun (s17 : (PySem.Str × PySem.Str)) => ds_nil (c := (s17.1, s17.2)) (by first | exact .inl rfl | exact .inr rfl) (.keep (.keep (.keep (.keep (.keep (.keep (.drop (.keep .nil))))))))))) (fun (s19 : (PySem.Str × PySem.Str)) => ds_nil (c := (s19.1, s19.2)) (by first | exact .inl rfl | exact .inr rfl) (.keep (.keep (.keep (.keep (.keep (.drop (.keep (.keep .nil))))))))))) (fun (s21 : (PySem.Str × PySem.Str)) => ds_nil (c := (s21.1, s21.2)) (by first | exact .inl rfl | exact .inr rfl) (.keep (.keep (.keep (.keep (.drop (.keep (.keep (.keep .nil))))))))))) (fun (s23 : (PySem.Str × PySem.Str)) => ds_one (ds_ret (f := (fun a => a)) (de_tup (dp_cons (de_var (pv 2) rfl) (dp_one (de_var (pv 3) rfl)))) (fun _ => rfl)))))) (by unfold m_texts; simp only [bo, isIn_dec, andok, orok]), fun _ => .inl rfl⟩
def m_corners_of (board_p : (Int × Int)) : R Er (List (Int × Int)) := (R.ok board_p).bind fun (t1 : (Int × Int)) =>
  (((rRng 0 (t1.1 + (1 : Int)))).bind fun v6 => (lc2R (fun (x_4 : Int) => (R.ok true)) (fun (x_4 : Int) => (rRng 0 (t1.2 + (1 : Int)))) (fun (x_4 : Int) (y_5 : Int) => (R.ok true)) (fun (x_4 : Int) (y_5 : Int) => (R.ok (x_4, y_5))) v6)).bind fun v7 => R.ok v7
abbrev sp_corners_of (P : Program) (w : World) (K : PySem.W.Frag) : Sp := spD (K := K) EX (tys1 yCn) (qF (K := K) (cLst yCn)) (fun a => m_corners_of a)
theorem sc_corners_of : FnScope ["board", "width", "height", "x", "y"] ["board"] (defScope s_corners_of) := ⟨rfl, rfl, rfl, by decide +kernel, rfl, by decide +kernel, by decide +kernel⟩
theorem ok_corners_of {P : Program} {w : World} {K : PySem.W.Frag} {mg : Str → Option Value} {base : Heap} {f : Addr} {fd : FuncData} (F : FnP K "corners_of" s_corners_of f fd) (oc : OC K) (bt : Bt mg) : FnOk P w K mg base CX 1 f fd ["board"] (sp_corners_of P w K) := by
  refine fn_ok F sc_corners_of (ent1 rfl) rfl fun cdv A outer s H E hr board_p => ?_
  have sc := sc_corners_of
  exact ⟨_, fun c => .rt (qF (K := K) (cLst yCn) c), DS.cast (m' := m_corners_of board_p) (ds_cons (ρ1 := fun (t1 : (Int × Int)) => [some (.pl yCn board_p), some (.pl yInt t1.1), some (.pl yInt t1.2), none, none]) (ds_asg (de_var (pv 0) rfl) (dg_tup rfl (dgs_c (ρ' := fun (a2 : Int) => [some (.pl yCn board_p), some (.pl yInt a2), none, none, none]) (dg_name (pg_name (i := 1) sc.nd rfl (.inl rfl))) (fun (a2 : Int) => dgs_1 (ρ' := fun (a3 : Int) => [some (.pl yCn board_p), some (.pl yInt a2), some (.pl yInt a3), none, none]) (dg_name (pg_name (i := 2) sc.nd rfl (.inr rfl))))))) (fun (t1 : (Int × Int)) => ds_one (ds_retF (f := (fun a => a)) (de_lc2 (own := [("x", 3), ("y", 4)]) (vs1 := [4]) (ρ' := fun (x_4 : Int) => [some (.pl yCn board_p), some (.pl yInt t1.1), some (.pl yInt t1.2), some (.pl yInt x_4), none]) (ρ2 := fun (x_4 : Int) (y_5 : Int) => [some (.pl yCn board_p), some (.pl yInt t1.1), some (.pl yInt t1.2), some (.pl yInt x_4), some (.pl yInt y_5)]) (U := yCn) rfl sc.nd (DI.c (di_range1 (by rfl) bt.range (de_add (de_var (pv 1) rfl) (de_c (T := yInt) (a := (1 : Int)) pe_int (fun _ => rfl))))) (blkOk_by (N := ["board", "width", "height", "x", "y"]) (sc := defScope s_corners_of) (by decide +kernel)) (by decide) (fun _ _ _ _ _ => dgc (dg_name (pg_name (i := 3) sc.nd rfl (by first | exact .inl rfl | exact .inr rfl))) (by first | rfl | (dsimp only [Blk, Cx.blk, cxOf]; try rfl))) (by decide) (fun _ _ _ _ _ (x_4 : Int) => dtc (dts_nil) (by first | rfl | (dsimp only [Blk, Cx.blk, cxOf]; try rfl))) (fun _ _ _ _ _ (x_4 : Int) => dic (di_range1 (by rfl) bt.range (de_add (de_var (pv 2) rfl) (de_c (T := yInt) (a := (1 : Int)) pe_int (fun _ => rfl)))) (by first | rfl | (dsimp only [Blk, Cx.blk, cxOf]; try rfl))) (fun _ _ _ _ _ (x_4 : Int) => dgc (dg_name (pg_name (i := 4) sc.nd rfl (by first | exact .inl rfl | exact .inr rfl))) (by first | rfl | (dsimp only [Blk, Cx.blk, cxOf]; try rfl))) (by decide) (fun _ _ _ _ _ (x_4 : Int) (y_5 : Int) => dtc (dts_nil) (by first | rfl | (dsimp only [Blk, Cx.blk, cxOf]; try rfl))) (fun _ _ _ _ _ (x_4 : Int) (y_5 : Int) => dec (de_tup (dp_cons (de_var (pv 3) rfl) (dp_one (de_var (pv 4) rfl)))) (by first | rfl | (dsimp only [Blk, Cx.blk, cxOf]; try rfl)))) (fun _ => rfl)))) (by unfold m_corners_of; simp only [bo, isIn_dec, andok, orok]), fun _ => .inl rfl⟩
def m_rising_pairs (board_p : (Int × Int)) : R Er (List ((Int × Int) × (Int × Int))) := (R.ok ([] : List ((Int × Int) × (Int × Int)))).bind fun (found_1 : (List ((Int × Int) × (Int × Int)))) =>
  (((m_corners_of board_p)).bind fun v14 => forS (fun (p_2 : (Int × Int)) (s3 : (List ((Int × Int) × (Int × Int)))) => (((rRng (p_2.1 + (1 : Int)) (board_p.1 + (1 : Int)))).bind fun v12 => forS (fun (x_4 : Int) (s5 : (List ((Int × Int) × (Int × Int)))) => (((rRng (p_2.2 + (1 : Int)) (board_p.2 + (1 : Int)))).bind fun v10 => forS (fun (y_6 : Int) (s7 : (List ((Int × Int) × (Int × Int)))) => ((rApp s7 (p_2, (x_4, y_6)))).bind fun (c9 : ((Int × Int) × (Int × Int))) =>
  R.ok (s7 ++ [c9])) v10 s5).bind fun (s11 : (List ((Int × Int) × (Int × Int)))) =>
  R.ok s11) v12 s3).bind fun (s13 : (List ((Int × Int) × (Int × Int)))) =>
  R.ok s13) v14 found_1).bind fun (s15 : (List ((Int × Int) × (Int × Int)))) =>
  R.ok s15
abbrev sp_rising_pairs (P : Program) (w : World) (K : PySem.W.Frag) : Sp := spD (K := K) EX (tys1 yCn) (qF (K := K) (cLst (yTup (tysC yCn (tys1 yCn))))) (fun a => m_rising_pairs a)
theorem sc_rising_pairs : FnScope ["board", "found", "p", "x", "y"] ["board"] (defScope s_rising_pairs) := ⟨rfl, rfl, rfl, by decide +kernel, rfl, by decide +kernel, by decide +kernel⟩
theorem ok_rising_pairs {P : Program} {w : World} {K : PySem.W.Frag} {mg : Str → Option Value} {base : Heap} {f : Addr} {fd : FuncData} (F : FnP K "rising_pairs" s_rising_pairs f fd) (c_corners_of : Cal P w K mg base CX 1 "corners_of" ["board"] (sp_corners_of P w K)) (oc : OC K) (bt : Bt mg) : FnOk P w K mg base CX 2 f fd ["board"] (sp_rising_pairs P w K) := by
  refine fn_ok F sc_rising_pairs (ent1 rfl) rfl fun cdv A outer s H E hr board_p => ?_
  have sc := sc_rising_pairs
  exact ⟨_, fun c => .rt (qF (K := K) (cLst (yTup (tysC yCn (tys1 yCn)))) c), DS.cast (m' := m_rising_pairs board_p) (ds_cons (ρ1 := fun (found_1 : (List ((Int × Int) × (Int × Int)))) => [some (.pl yCn board_p), some (.ow (cLst (yTup (tysC yCn (tys1 yCn)))) found_1), none, none, none]) (ds_setF (i := 1) sc.nd rfl (.inl rfl) (de_lst (T := (yTup (tysC yCn (tys1 yCn)))) (dl_nil))) (fun (found_1 : (List ((Int × Int) × (Int × Int)))) => ds_cons (ρ1 := fun (s15 : (List ((Int × Int) × (Int × Int)))) => [some (.pl yCn board_p), some (.ow (cLst (yTup (tysC yCn (tys1 yCn)))) s15), none, none, none]) (ds_forS (eH := fun (s3 : (List ((Int × Int) × (Int × Int)))) => [some (.pl yCn board_p), some (.ow (cLst (yTup (tysC yCn (tys1 yCn)))) s3), none, none, none]) (eB := fun (s3 : (List ((Int × Int) × (Int × Int)))) (p_2 : (Int × Int)) => [some (.pl yCn board_p), some (.ow (cLst (yTup (tysC yCn (tys1 yCn)))) s3), some (.pl yCn p_2), none, none]) (a0 := found_1) (passes_of rfl) rfl (di_list (DE.fpL (de_callF c_corners_of.ok (hr.mono (by decide)) rfl c_corners_of.mg c_corners_of.kp c_corners_of.bd passC (da_one (de_var (pv 0) rfl)) (imm_cLst (imm_tup (imm_C imm_int (imm_1 imm_int)))) (wkN rfl)))) (.keep (.keep (.keep (.keep (.keep .nil))))) (fun (s3 : (List ((Int × Int) × (Int × Int)))) => dg_name (pg_name (i := 2) sc.nd rfl (.inl rfl))) (fun (s3 : (List ((Int × Int) × (Int × Int)))) (p_2 : (Int × Int)) => ds_cons (ρ1 := fun (s13 : (List ((Int × Int) × (Int × Int)))) => [some (.pl yCn board_p), some (.ow (cLst (yTup (tysC yCn (tys1 yCn)))) s13), some (.pl yCn p_2), none, none]) (ds_forS (eH := fun (s5 : (List ((Int × Int) × (Int × Int)))) => [some (.pl yCn board_p), some (.ow (cLst (yTup (tysC yCn (tys1 yCn)))) s5), some (.pl yCn p_2), none, none]) (eB := fun (s5 : (List ((Int × Int) × (Int × Int)))) (x_4 : Int) => [some (.pl yCn board_p), some (.ow (cLst (yTup (tysC yCn (tys1 yCn)))) s5), some (.pl yCn p_2), some (.pl yInt x_4), none]) (a0 := s3) (passes_of rfl) rfl (di_range2 (by rfl) bt.range (de_add (de_nth (de_var (pv 2) rfl) nth_0) (de_c (T := yInt) (a := (1 : Int)) pe_int (fun _ => rfl))) (de_add (de_nth (de_var (pv 0) rfl) nth_0) (de_c (T := yInt) (a := (1 : Int)) pe_int (fun _ => rfl)))) (.keep (.keep (.keep (.keep (.keep .nil))))) (fun (s5 : (List ((Int × Int) × (Int × Int)))) => dg_name (pg_name (i := 3) sc.nd rfl (.inl rfl))) (fun (s5 : (List ((Int × Int) × (Int × Int)))) (x_4 : Int) => ds_cons (ρ1 := fun (s11 : (List ((Int × Int) × (Int × Int)))) => [some (.pl yCn board_p), some (.ow (cLst (yTup (tysC yCn (tys1 yCn)))) s11), some (.pl yCn p_2), some (.pl yInt x_4), none]) (ds_forS (eH := fun (s7 : (List ((Int × Int) × (Int × Int)))) => [some (.pl yCn board_p), some (.ow (cLst (yTup (tysC yCn (tys1 yCn)))) s7), some (.pl yCn p_2), some (.pl yInt x_4), none]) (eB := fun (s7 : (List ((Int × Int) × (Int × Int)))) (y_6 : Int) => [some (.pl yCn board_p), some (.ow (cLst (yTup (tysC yCn (tys1 yCn)))) s7), some (.pl yCn p_2), some (.pl yInt x_4), some (.pl yInt y_6)]) (a0 := s5) (passes_of rfl) rfl (di_range2 (by rfl) bt.range (de_add (de_nth (de_var (pv 2) rfl) (nth_s nth_1)) (de_c (T := yInt) (a := (1 : Int)) pe_int (fun _ => rfl))) (de_add (de_nth (de_var (pv 0) rfl) (nth_s nth_1)) (de_c (T := yInt) (a := (1 : Int)) pe_int (fun _ => rfl)))) (.keep (.keep (.keep (.keep (.keep .nil))))) (fun (s7 : (List ((Int × Int) × (Int × Int)))) => dg_name (pg_name (i := 4) sc.nd rfl (.inl rfl))) (fun (s7 : (List ((Int × Int) × (Int × Int)))) (y_6 : Int) => ds_cons (ρ1 := fun (c9 : ((Int × Int) × (Int × Int))) => [some (.pl yCn board_p), some (.ow (cLst (yTup (tysC yCn (tys1 yCn)))) (s7 ++ [c9])), some (.pl yCn p_2), some (.pl yInt x_4), some (.pl yInt y_6)]) (ds_append (pv 1) rfl (de_tup (dp_cons (de_var (pv 2) rfl) (dp_one (de_tup (dp_cons (de_var (pv 3) rfl) (dp_one (de_var (pv 4) rfl)))))))) (fun (c9 : ((Int × Int) × (Int × Int))) => ds_nil (c := (s7 ++ [c9])) (by first | exact .inl rfl | exact .inr rfl) (.keep (.keep (.keep (.keep (.drop .nil)))))))) (fun (s11 : (List ((Int × Int) × (Int × Int)))) => ds_nil (c := s11) (by first | exact .inl rfl | exact .inr rfl) (.keep (.keep (.keep (.drop (.keep .nil)))))))) (fun (s13 : (List ((Int × Int) × (Int × Int)))) => ds_nil (c := s13) (by first | exact .inl rfl | exact .inr rfl) (.keep (.keep (.drop (.keep (.keep .nil)))))))) (fun (s15 : (List ((Int × Int) × (Int × Int)))) => ds_one (ds_retO (c := s15) (pv 1) rfl rfl)))) (by unfold m_rising_pairs; simp only [bo, isIn_dec, andok, orok]), fun _ => .inl rfl⟩
def m_falling_pairs (board_p : (Int × Int)) : R Er (List ((Int × Int) × (Int × Int))) := (R.ok ([] : List ((Int × Int) × (Int × Int)))).bind fun (found_1 : (List ((Int × Int) × (Int × Int)))) =>
  (((m_corners_of board_p)).bind fun v14 => forS (fun (p_2 : (Int × Int)) (s3 : (List ((Int × Int) × (Int × Int)))) => (((rRng (p_2.1 + (1 : Int)) (board_p.1 + (1 : Int)))).bind fun v12 => forS (fun (x_4 : Int) (s5 : (List ((Int × Int) × (Int × Int)))) => (((rRng 0 p_2.2)).bind fun v10 => forS (fun (y_6 : Int) (s7 : (List ((Int × Int) × (Int × Int)))) => ((rApp s7 (p_2, (x_4, y_6)))).bind fun (c9 : ((Int × Int) × (Int × Int))) =>
  R.ok (s7 ++ [c9])) v10 s5).bind fun (s11 : (List ((Int × Int) × (Int × Int)))) =>
  R.ok s11) v12 s3).bind fun (s13 : (List ((Int × Int) × (Int × Int)))) =>
  R.ok s13) v14 found_1).bind fun (s15 : (List ((Int × Int) × (Int × Int)))) =>
  R.ok s15
abbrev sp_falling_pairs (P : Program) (w : World) (K : PySem.W.Frag) : Sp := spD (K := K) EX (tys1 yCn) (qF (K := K) (cLst (yTup (tysC yCn (tys1 yCn))))) (fun a => m_falling_pairs a)
theorem sc_falling_pairs : FnScope ["board", "found", "p", "x", "y"] ["board"] (defScope s_falling_pairs) := ⟨rfl, rfl, rfl, by decide +kernel, rfl, by decide +kernel, by decide +kernel⟩
theorem ok_falling_pairs {P : Program} {w : World} {K : PySem.W.Frag} {mg : Str → Option Value} {base : Heap} {f : Addr} {fd : FuncData} (F : FnP K "falling_pairs" s_falling_pairs f fd) (c_corners_of : Cal P w K mg base CX 1 "corners_of" ["board"] (sp_corners_of P w K)) (oc : OC K) (bt : Bt mg) : FnOk P w K mg base CX 2 f fd ["board"] (sp_falling_pairs P w K) := by
  refine fn_ok F sc_falling_pairs (ent1 rfl) rfl fun cdv A outer s H E hr board_p => ?_
  have sc := sc_falling_pairs
  exact ⟨_, fun c => .rt (qF (K := K) (cLst (yTup (tysC yCn (tys1 yCn)))) c), DS.cast (m' := m_falling_pairs board_p) (ds_cons (ρ1 := fun (found_1 : (List ((Int × Int) × (Int × Int)))) => [some (.pl yCn board_p), some (.ow (cLst (yTup (tysC yCn (tys1 yCn)))) found_1), none, none, none]) (ds_setF (i := 1) sc.nd rfl (.inl rfl) (de_lst (T := (yTup (tysC yCn (tys1 yCn)))) (dl_nil))) (fun (found_1 : (List ((Int × Int) × (Int × Int)))) => ds_cons (ρ1 := fun (s15 : (List ((Int × Int) × (Int × Int)))) => [some (.pl yCn board_p), some (.ow (cLst (yTup (tysC yCn (tys1 yCn)))) s15), none, none, none]) (ds_forS (eH := fun (s3 : (List ((Int × Int) × (Int × Int)))) => [some (.pl yCn board_p), some (.ow (cLst (yTup (tysC yCn (tys1 yCn)))) s3), none, none, none]) (eB := fun (s3 : (List ((Int × Int) × (Int × Int)))) (p_2 : (Int × Int)) => [some (.pl yCn board_p), some (.ow (cLst (yTup (tysC yCn (tys1 yCn)))) s3), some (.pl yCn p_2), none, none]) (a0 := found_1) (passes_of rfl) rfl (di_list (DE.fpL (de_callF c_corners_of.ok (hr.mono (by decide)) rfl c_corners_of.mg c_corners_of.kp c_corners_of.bd passC (da_one (de_var (pv 0) rfl)) (imm_cLst (imm_tup (imm_C imm_int (imm_1 imm_int)))) (wkN rfl)))) (.keep (.keep (.keep (.keep (.keep .nil))))) (fun (s3 : (List ((Int × Int) × (Int × Int)))) => dg_name (pg_name (i := 2) sc.nd rfl (.inl rfl))) (fun (s3 : (List ((Int × Int) × (Int × Int)))) (p_2 : (Int × Int)) => ds_cons (ρ1 := fun (s13 : (List ((Int × Int) × (Int × Int)))) => [some (.pl yCn board_p), some (.ow (cLst (yTup (tysC yCn (tys1 yCn)))) s13), some (.pl yCn p_2), none, none]) (ds_forS (eH := fun (s5 : (List ((Int × Int) × (Int × Int)))) => [some (.pl yCn board_p), some (.ow (cLst (yTup (tysC yCn (tys1 yCn)))) s5), some (.pl yCn p_2), none, none]) (eB := fun (s5 : (List ((Int × Int) × (Int × Int)))) (x_4 : Int) => [some (.pl yCn board_p), some (.ow (cLst (yTup (tysC yCn (tys1 yCn)))) s5), some (.pl yCn p_2), some (.pl yInt x_4), none]) (a0 := s3) (passes_of rfl) rfl (di_range2 (by rfl) bt.range (de_add (de_nth (de_var (pv 2) rfl) nth_0) (de_c (T := yInt) (a := (1 : Int)) pe_int (fun _ => rfl))) (de_add (de_nth (de_var (pv 0) rfl) nth_0) (de_c (T := yInt) (a := (1 : Int)) pe_int (fun _ => rfl)))) (.keep (.keep (.keep (.keep (.keep .nil))))) (fun (s5 : (List ((Int × Int) × (Int × Int)))) => dg_name (pg_name (i := 3) sc.nd rfl (.inl rfl))) (fun (s5 : (List ((Int × Int) × (Int × Int)))) (x_4 : Int) => ds_cons (ρ1 := fun (s11 : (List ((Int × Int) × (Int × Int)))) => [some (.pl yCn board_p), some (.ow (cLst (yTup (tysC yCn (tys1 yCn)))) s11), some (.pl yCn p_2), some (.pl yInt x_4), none]) (ds_forS (eH := fun (s7 : (List ((Int × Int) × (Int × Int)))) => [some (.pl yCn board_p), some (.ow (cLst (yTup (tysC yCn (tys1 yCn)))) s7), some (.pl yCn p_2), some (.pl yInt x_4), none]) (eB := fun (s7 : (List ((Int × Int) × (Int × Int)))) (y_6 : Int) => [some (.pl yCn board_p), some (.ow (cLst (yTup (tysC yCn (tys1 yCn)))) s7), some (.pl yCn p_2), some (.pl yInt x_4), some (.pl yInt y_6)]) (a0 := s5) (passes_of rfl) rfl (di_range1 (by rfl) bt.range (de_nth (de_var (pv 2) rfl) (nth_s nth_1))) (.keep (.keep (.keep (.keep (.keep .nil))))) (fun (s7 : (List ((Int × Int) × (Int × Int)))) => dg_name (pg_name (i := 4) sc.nd rfl (.inl rfl))) (fun (s7 : (List ((Int × Int) × (Int × Int)))) (y_6 : Int) => ds_cons (ρ1 := fun (c9 : ((Int × Int) × (Int × Int))) => [some (.pl yCn board_p), some (.ow (cLst (yTup (tysC yCn (tys1 yCn)))) (s7 ++ [c9])), some (.pl yCn p_2), some (.pl yInt x_4), some (.pl yInt y_6)]) (ds_append (pv 1) rfl (de_tup (dp_cons (de_var (pv 2) rfl) (dp_one (de_tup (dp_cons (de_var (pv 3) rfl) (dp_one (de_var (pv 4) rfl)))))))) (fun (c9 : ((Int × Int) × (Int × Int))) => ds_nil (c := (s7 ++ [c9])) (by first | exact .inl rfl | exact .inr rfl) (.keep (.keep (.keep (.keep (.drop .nil)))))))) (fun (s11 : (List ((Int × Int) × (Int × Int)))) => ds_nil (c := s11) (by first | exact .inl rfl | exact .inr rfl) (.keep (.keep (.keep (.drop (.keep .nil)))))))) (fun (s13 : (List ((Int × Int) × (Int × Int)))) => ds_nil (c := s13) (by first | exact .inl rfl | exact .inr rfl) (.keep (.keep (.drop (.keep (.keep .nil)))))))) (fun (s15 : (List ((Int × Int) × (Int × Int)))) => ds_one (ds_retO (c := s15) (pv 1) rfl rfl)))) (by unfold m_falling_pairs; simp only [bo, isIn_dec, andok, orok]), fun _ => .inl rfl⟩
def m_pairs_of (board_p : (Int × Int)) (half_p : PySem.Str) : R Er (List ((Int × Int) × (Int × Int))) := if (decide (half_p = ("rising" : PySem.Str))) then (((m_rising_pairs board_p)).bind fun v1 => R.ok v1) else
  (((m_falling_pairs board_p)).bind fun v2 => R.ok v2)
abbrev sp_pairs_of (P : Program) (w : World) (K : PySem.W.Frag) : Sp := spD (K := K) EX (tysC yCn (tys1 yStr)) (qF (K := K) (cLst (yTup (tysC yCn (tys1 yCn))))) (fun a => m_pairs_of a.1 a.2)
theorem sc_pairs_of : FnScope ["board", "half"] ["board", "half"] (defScope s_pairs_of) := ⟨rfl, rfl, rfl, by decide +kernel, rfl, by decide +kernel, by decide +kernel⟩
theorem ok_pairs_of {P : Program} {w : World} {K : PySem.W.Frag} {mg : Str → Option Value} {base : Heap} {f : Addr} {fd : FuncData} (F : FnP K "pairs_of" s_pairs_of f fd) (c_rising_pairs : Cal P w K mg base CX 2 "rising_pairs" ["board"] (sp_rising_pairs P w K)) (c_falling_pairs : Cal P w K mg base CX 2 "falling_pairs" ["board"] (sp_falling_pairs P w K)) (oc : OC K) (bt : Bt mg) : FnOk P w K mg base CX 3 f fd ["board", "half"] (sp_pairs_of P w K) := by
  refine fn_ok F sc_pairs_of (entC (ent1 rfl)) rfl fun cdv A outer s H E hr a => ?_
  obtain ⟨board_p, half_p⟩ := a
  have sc := sc_pairs_of
  exact ⟨_, fun c => .rt (qF (K := K) (cLst (yTup (tysC yCn (tys1 yCn)))) c), DS.cast (m' := m_pairs_of board_p half_p) (ds_ift (DQ.dt (dq_eqS (de_var (pv 1) rfl) (de_gS rfl bt.k_RISING))) (ds_one (ds_retF (f := (fun a => a)) (de_callF c_rising_pairs.ok (hr.mono (by decide)) rfl c_rising_pairs.mg c_rising_pairs.kp c_rising_pairs.bd passC (da_one (de_var (pv 0) rfl)) (imm_cLst (imm_tup (imm_C (imm_tup (imm_C imm_int (imm_1 imm_int))) (imm_1 (imm_tup (imm_C imm_int (imm_1 imm_int))))))) (wkN rfl)) (fun _ => rfl))) (fun _ => rfl) (ds_one (ds_retF (f := (fun a => a)) (de_callF c_falling_pairs.ok (hr.mono (by decide)) rfl c_falling_pairs.mg c_falling_pairs.kp c_falling_pairs.bd passC (da_one (de_var (pv 0) rfl)) (imm_cLst (imm_tup (imm_C (imm_tup (imm_C imm_int (imm_1 imm_int))) (imm_1 (imm_tup (imm_C imm_int (imm_1 imm_int))))))) (wkN rfl)) (fun _ => rfl)))) (by unfold m_pairs_of; simp only [bo, isIn_dec, andok, orok]), fun _ => .inl rfl⟩
def m_steep_letter (half_p : PySem.Str) : R Er PySem.Str := if (decide (half_p = ("rising" : PySem.Str))) then (R.ok ("N" : PySem.Str)) else
  (R.ok ("S" : PySem.Str))
abbrev sp_steep_letter (P : Program) (w : World) (K : PySem.W.Frag) : Sp := spD (K := K) EX (tys1 yStr) (qP (K := K) yStr) (fun a => m_steep_letter a)
theorem sc_steep_letter : FnScope ["half"] ["half"] (defScope s_steep_letter) := ⟨rfl, rfl, rfl, by decide +kernel, rfl, by decide +kernel, by decide +kernel⟩
theorem ok_steep_letter {P : Program} {w : World} {K : PySem.W.Frag} {mg : Str → Option Value} {base : Heap} {f : Addr} {fd : FuncData} (F : FnP K "steep_letter" s_steep_letter f fd) (oc : OC K) (bt : Bt mg) : FnOk P w K mg base CX 1 f fd ["half"] (sp_steep_letter P w K) := by
  refine fn_ok F sc_steep_letter (ent1 rfl) rfl fun cdv A outer s H E hr half_p => ?_
  have sc := sc_steep_letter
  exact ⟨_, fun c => .rt (qP (K := K) yStr c), DS.cast (m' := m_steep_letter half_p) (ds_ift (DQ.dt (dq_eqS (de_var (pv 0) rfl) (de_gS rfl bt.k_RISING))) (ds_one (ds_ret (f := (fun a => a)) (de_c (T := yStr) (a := ("N" : PySem.Str)) pe_str (fun _ => ⟨rfl, by decide +kernel⟩)) (fun _ => rfl))) (fun _ => rfl) (ds_one (ds_ret (f := (fun a => a)) (de_c (T := yStr) (a := ("S" : PySem.Str)) pe_str (fun _ => ⟨rfl, by decide +kernel⟩)) (fun _ => rfl)))) (by unfold m_steep_letter; simp only [bo, isIn_dec, andok, orok]), fun _ => .inl rfl⟩
def m_has_table_form (board_p : (Int × Int)) (half_p : PySem.Str) (letters_p : PySem.Str) : R Er Bool := (((rLenS letters_p)).bind fun v2 => (((m_pairs_of board_p half_p)).bind fun v1 => R.ok (List.length v1 : Int)).bind fun v3 => R.ok (!decide (v2 = v3))).bind fun v12 => if v12 then (R.ok false) else
  (R.seqX (((rSigns letters_p)).bind fun v10 => forX (fun (letter_4 : PySem.Str) (s5 : Unit) => (((((m_steep_letter half_p)).bind fun v6 => R.ok (("E" : PySem.Str), v6)).bind fun v7 => R.ok ([v7.1, v7.2] : List PySem.Str)).bind fun v8 => R.ok (!memB letter_4 v8)).bind fun v9 => if v9 then (R.ok (.inr false)) else
  (R.ok (.inl ()))) v10 ()) (fun a => a) fun (s11 : Unit) =>
  R.ok true)
abbrev sp_has_table_form (P : Program) (w : World) (K : PySem.W.Frag) : Sp := spD (K := K) EX (tysC yCn (tysC yStr (tys1 yStr))) (qP (K := K) yBl) (fun a => m_has_table_form a.1 a.2.1 a.2.2)
theorem sc_has_table_form : FnScope ["board", "half", "letters", "letter"] ["board", "half", "letters"] (defScope s_has_table_form) := ⟨rfl, rfl, rfl, by decide +kernel, rfl, by decide +kernel, by decide +kernel⟩
theorem ok_has_table_form {P : Program} {w : World} {K : PySem.W.Frag} {mg : Str → Option Value} {base : Heap} {f : Addr} {fd : FuncData} (F : FnP K "has_table_form" s_has_table_form f fd) (c_pairs_of : Cal P w K mg base CX 3 "pairs_of" ["board", "half"] (sp_pairs_of P w K)) (c_steep_letter : Cal P w K mg base CX 1 "steep_letter" ["half"] (sp_steep_letter P w K)) (oc : OC K) (bt : Bt mg) : FnOk P w K mg base CX 4 f fd ["board", "half", "letters"] (sp_has_table_form P w K) := by
  refine fn_ok F sc_has_table_form (entC (entC (ent1 rfl))) rfl fun cdv A outer s H E hr a => ?_
  obtain ⟨board_p, half_p, letters_p⟩ := a
  have sc := sc_has_table_form
  exact ⟨_, fun c => .rt (qP (K := K) yBl c), DS.cast (m' := m_has_table_form board_p half_p letters_p) (ds_ift (DQ.dt (dq_neI (de_lenS rfl bt.len (de_var (pv 2) rfl)) (de_len len_lst rfl bt.len (DE.fpL (de_callF c_pairs_of.ok (hr.mono (by decide)) rfl c_pairs_of.mg c_pairs_of.kp c_pairs_of.bd passC (da_cons (de_var (pv 0) rfl) (da_one (de_var (pv 1) rfl))) (imm_cLst (imm_tup (imm_C (imm_tup (imm_C imm_int (imm_1 imm_int))) (imm_1 (imm_tup (imm_C imm_int (imm_1 imm_int))))))) (wkN rfl)))))) (ds_one (ds_ret (f := (fun a => a)) (de_c (T := yBl) (a := false) pe_bl (fun _ => rfl)) (fun _ => rfl))) (fun _ => rfl) (ds_seqX (f := (fun a => a)) (ρ1 := fun (s11 : Unit) => [some (.pl yCn board_p), some (.pl yStr half_p), some (.pl yStr letters_p), none]) (ds_forX (eH := fun (s5 : Unit) => [some (.pl yCn board_p), some (.pl yStr half_p), some (.pl yStr letters_p), none]) (eB := fun (s5 : Unit) (letter_4 : PySem.Str) => [some (.pl yCn board_p), some (.pl yStr half_p), some (.pl yStr letters_p), some (.pl yStr letter_4)]) (a0 := ()) (passes_of rfl) rfl (di_str (de_var (pv 2) rfl)) (.keep (.keep (.keep (.keep .nil)))) (fun (s5 : Unit) => dg_name (pg_name (i := 3) sc.nd rfl (.inl rfl))) (fun _ => ⟨_, rfl⟩) (fun (s5 : Unit) (letter_4 : PySem.Str) => ds_one (ds_if1 (DQ.dt (dq_notInT q_str (u65 hr) (lo rfl) (de_var (pv 3) rfl) (DE.as_ (U := (yTupOf yStr)) (de_tup (dp_cons (de_c (T := yStr) (a := ("E" : PySem.Str)) pe_str (fun _ => ⟨rfl, by decide +kernel⟩)) (dp_one (de_call c_steep_letter.ok (hr.mono (by decide)) rfl c_steep_letter.mg c_steep_letter.kp c_steep_letter.bd passC (da_one (de_var (pv 1) rfl)) imm_str (wkN rfl))))) (Tl.rel (tl_C tl_1))))) (ds_one (ds_ret (f := (fun a => (.inr a))) (de_c (T := yBl) (a := false) pe_bl (fun _ => rfl)) (fun _ => rfl))) (ds_nil (c := (.inl ())) (by first | exact .inl rfl | exact .inr rfl) (.keep (.keep (.keep (.drop .nil)))))))) (fun (s11 : Unit) => ds_one (ds_ret (f := (fun a => a)) (de_c (T := yBl) (a := true) pe_bl (fun _ => rfl)) (fun _ => rfl))) (fun x => by first | exact ⟨rfl, trivial⟩ | (cases x <;> exact ⟨rfl, trivial⟩)))) (by unfold m_has_table_form; simp only [bo, isIn_dec, andok, orok]), fun _ => .inl rfl⟩
def m_letters_by_pair (board_p : (Int × Int)) (half_p : PySem.Str) (letters_p : PySem.Str) : R Er (List (((Int × Int) × (Int × Int)) × PySem.Str)) := ((((m_pairs_of board_p half_p)).bind fun v1 => (rZipS v1 letters_p)).bind fun v5 => (dcR (fun (pair_2 : (((Int × Int) × (Int × Int)) × PySem.Str)) => (R.ok true)) (fun (pair_2 : (((Int × Int) × (Int × Int)) × PySem.Str)) => (R.ok pair_2.1)) (fun (pair_2 : (((Int × Int) × (Int × Int)) × PySem.Str)) => (R.ok pair_2.2)) v5)).bind fun v6 => R.ok v6
abbrev sp_letters_by_pair (P : Program) (w : World) (K : PySem.W.Frag) : Sp := spD (K := K) EX (tysC yCn (tysC yStr (tys1 yStr))) (qF (K := K) (cDic P w (kTup (ksC (kTup (ksC kInt (ks1 kInt))) (ks1 (kTup (ksC kInt (ks1 kInt)))))) yStr)) (fun a => m_letters_by_pair a.1 a.2.1 a.2.2)
theorem sc_letters_by_pair : FnScope ["board", "half", "letters", "pair", "letter"] ["board", "half", "letters"] (defScope s_letters_by_pair) := ⟨rfl, rfl, rfl, by decide +kernel, rfl, by decide +kernel, by decide +kernel⟩
theorem ok_letters_by_pair {P : Program} {w : World} {K : PySem.W.Frag} {mg : Str → Option Value} {base : Heap} {f : Addr} {fd : FuncData} (F : FnP K "letters_by_pair" s_letters_by_pair f fd) (c_pairs_of : Cal P w K mg base CX 3 "pairs_of" ["board", "half"] (sp_pairs_of P w K)) (oc : OC K) (bt : Bt mg) : FnOk P w K mg base CX 4 f fd ["board", "half", "letters"] (sp_letters_by_pair P w K) := by
  refine fn_ok F sc_letters_by_pair (entC (entC (ent1 rfl))) rfl fun cdv A outer s H E hr a => ?_
  obtain ⟨board_p, half_p, letters_p⟩ := a
  have sc := sc_letters_by_pair
  exact ⟨_, fun c => .rt (qF (K := K) (cDic P w (kTup (ksC (kTup (ksC kInt (ks1 kInt))) (ks1 (kTup (ksC kInt (ks1 kInt)))))) yStr) c), DS.cast (m' := m_letters_by_pair board_p half_p letters_p) (ds_one (ds_retF (f := (fun a => a)) (de_dcN (own := [("pair", 3), ("letter", 4)]) (ρ' := fun (pair_2 : (((Int × Int) × (Int × Int)) × PySem.Str)) => [some (.pl yCn board_p), some (.pl yStr half_p), some (.pl yStr letters_p), some (.pl (yTup (tysC yCn (tys1 yCn))) pair_2.1), some (.pl yStr pair_2.2)]) (k := (kTup (ksC (kTup (ksC kInt (ks1 kInt))) (ks1 (kTup (ksC kInt (ks1 kInt))))))) (U := yStr) rfl sc.nd (DI.c (di_zipLS (by rfl) bt.zip (DE.fpL (de_callF c_pairs_of.ok (hr.mono (by decide)) rfl c_pairs_of.mg c_pairs_of.kp c_pairs_of.bd passC (da_cons (de_var (pv 0) rfl) (da_one (de_var (pv 1) rfl))) (imm_cLst (imm_tup (imm_C (imm_tup (imm_C imm_int (imm_1 imm_int))) (imm_1 (imm_tup (imm_C imm_int (imm_1 imm_int))))))) (wkN rfl))) (de_var (pv 2) rfl))) (blkOk_by (N := ["board", "half", "letters", "pair", "letter"]) (sc := defScope s_letters_by_pair) (by decide +kernel)) ar_tup (u64 hr) (fun _ _ _ _ _ => dgc (dg_tup rfl (dgs_c (ρ' := fun (a3 : ((Int × Int) × (Int × Int))) => [some (.pl yCn board_p), some (.pl yStr half_p), some (.pl yStr letters_p), some (.pl (yTup (tysC yCn (tys1 yCn))) a3), none]) (dg_name (pg_name (i := 3) sc.nd rfl (by first | exact .inl rfl | exact .inr rfl))) (fun (a3 : ((Int × Int) × (Int × Int))) => dgs_1 (ρ' := fun (a4 : PySem.Str) => [some (.pl yCn board_p), some (.pl yStr half_p), some (.pl yStr letters_p), some (.pl (yTup (tysC yCn (tys1 yCn))) a3), some (.pl yStr a4)]) (dg_name (pg_name (i := 4) sc.nd rfl (by first | exact .inl rfl | exact .inr rfl)))))) (by first | rfl | (dsimp only [Blk, Cx.blk, cxOf]; try rfl))) (by decide) (fun _ _ _ _ _ (pair_2 : (((Int × Int) × (Int × Int)) × PySem.Str)) => dtc (dts_nil) (by first | rfl | (dsimp only [Blk, Cx.blk, cxOf]; try rfl))) (fun _ _ _ _ _ (pair_2 : (((Int × Int) × (Int × Int)) × PySem.Str)) => dec (de_var (pv 3) rfl) (by first | rfl | (dsimp only [Blk, Cx.blk, cxOf]; try rfl))) (fun _ _ _ _ _ (pair_2 : (((Int × Int) × (Int × Int)) × PySem.Str)) => dec (de_var (pv 4) rfl) (by first | rfl | (dsimp only [Blk, Cx.blk, cxOf]; try rfl)))) (fun _ => rfl))) (by unfold m_letters_by_pair; simp only [bo, isIn_dec, andok, orok]), fun _ => .inl rfl⟩
def m_steps_between (p_p : (Int × Int)) (q_p : (Int × Int)) : R Er Int := R.ok ((if (p_p.1 - q_p.1) < 0 then -(p_p.1 - q_p.1) else (p_p.1 - q_p.1)) + (if (p_p.2 - q_p.2) < 0 then -(p_p.2 - q_p.2) else (p_p.2 - q_p.2)))
abbrev sp_steps_between (P : Program) (w : World) (K : PySem.W.Frag) : Sp := spD (K := K) EX (tysC yCn (tys1 yCn)) (qP (K := K) yInt) (fun a => m_steps_between a.1 a.2)
theorem sc_steps_between : FnScope ["p", "q"] ["p", "q"] (defScope s_steps_between) := ⟨rfl, rfl, rfl, by decide +kernel, rfl, by decide +kernel, by decide +kernel⟩
theorem ok_steps_between {P : Program} {w : World} {K : PySem.W.Frag} {mg : Str → Option Value} {base : Heap} {f : Addr} {fd : FuncData} (F : FnP K "steps_between" s_steps_between f fd) (oc : OC K) (bt : Bt mg) : FnOk P w K mg base CX 1 f fd ["p", "q"] (sp_steps_between P w K) := by
  refine fn_ok F sc_steps_between (entC (ent1 rfl)) rfl fun cdv A outer s H E hr a => ?_
  obtain ⟨p_p, q_p⟩ := a
  have sc := sc_steps_between
  exact ⟨_, fun c => .rt (qP (K := K) yInt c), DS.cast (m' := m_steps_between p_p q_p) (ds_one (ds_ret (f := (fun a => a)) (de_add (de_abs rfl bt.abs (de_sub (de_nth (de_var (pv 0) rfl) nth_0) (de_nth (de_var (pv 1) rfl) nth_0))) (de_abs rfl bt.abs (de_sub (de_nth (de_var (pv 0) rfl) (nth_s nth_1)) (de_nth (de_var (pv 1) rfl) (nth_s nth_1))))) (fun _ => rfl))) (by unfold m_steps_between; simp only [bo, isIn_dec, andok, orok]), fun _ => .inl rfl⟩
def m_pairs_by_steps (board_p : (Int × Int)) (half_p : PySem.Str) : R Er (List ((Int × Int) × (Int × Int))) := (((m_pairs_of board_p half_p)).bind fun v3 => (rSortK false (fun (a : (Int × ((Int × Int) × (Int × Int)))) => (PyData.tuple [(PyData.int a.1), (PyData.tuple [(PyData.tuple [(PyData.int a.2.1.1), (PyData.int a.2.1.2)]), (PyData.tuple [(PyData.int a.2.2.1), (PyData.int a.2.2.2)])])])) (fun (pair_1 : ((Int × Int) × (Int × Int))) => ((m_steps_between pair_1.1 pair_1.2)).bind fun v2 => R.ok (v2, pair_1)) v3)).bind fun v4 => R.ok v4
abbrev sp_pairs_by_steps (P : Program) (w : World) (K : PySem.W.Frag) : Sp := spD (K := K) EX (tysC yCn (tys1 yStr)) (qF (K := K) (cLst (yTup (tysC yCn (tys1 yCn))))) (fun a => m_pairs_by_steps a.1 a.2)
theorem sc_pairs_by_steps : FnScope ["board", "half"] ["board", "half"] (defScope s_pairs_by_steps) := ⟨rfl, rfl, rfl, by decide +kernel, rfl, by decide +kernel, by decide +kernel⟩
theorem ok_pairs_by_steps {P : Program} {w : World} {K : PySem.W.Frag} {mg : Str → Option Value} {base : Heap} {f : Addr} {fd : FuncData} (F : FnP K "pairs_by_steps" s_pairs_by_steps f fd) (c_pairs_of : Cal P w K mg base CX 3 "pairs_of" ["board", "half"] (sp_pairs_of P w K)) (c_steps_between : Cal P w K mg base CX 1 "steps_between" ["p", "q"] (sp_steps_between P w K)) (la0 : LamAt K mg base fd.code ((envOfC "pairs_by_steps" (defScope s_pairs_by_steps) 0 0 .none).qual ++ "<lambda>")) (oc : OC K) (bt : Bt mg) : FnOk P w K mg base CX 5 f fd ["board", "half"] (sp_pairs_by_steps P w K) := by
  refine fn_okC F sc_pairs_by_steps (entC (ent1 rfl)) rfl fun cdv hcv A outer s H E hr a => ?_
  have la := la0
  rw [← hcv] at la
  obtain ⟨board_p, half_p⟩ := a
  have sc := sc_pairs_by_steps
  exact ⟨_, fun c => .rt (qF (K := K) (cLst (yTup (tysC yCn (tys1 yCn)))) c), DS.cast (m' := m_pairs_by_steps board_p half_p) (ds_one (ds_retF (f := (fun a => a)) (de_sortedK1 (k := 1) (x := "pair") (PK := (pTup (psC pInt (ps1 (pTup (psC (pTup (psC pInt (ps1 pInt))) (ps1 (pTup (psC pInt (ps1 pInt)))))))))) (py := (fun (a : (Int × ((Int × Int) × (Int × Int)))) => (PyData.tuple [(PyData.int a.1), (PyData.tuple [(PyData.tuple [(PyData.int a.2.1.1), (PyData.int a.2.1.2)]), (PyData.tuple [(PyData.int a.2.2.1), (PyData.int a.2.2.2)])])]))) (fun _ => rfl) (fun _ _ => rfl) (fun _ => PySem.W.Sortable.tuples fun _ => ⟨_, _, rfl⟩) (imm_tup (imm_C (imm_tup (imm_C imm_int (imm_1 imm_int))) (imm_1 (imm_tup (imm_C imm_int (imm_1 imm_int)))))) rfl bt.sorted rfl (hr.mono (by decide)) la (lamP_by (sc := defScope s_pairs_by_steps) (by decide +kernel)) (show ("pair" : PySem.Str) ∉ (["board", "half"] : List PySem.Str) from by decide +kernel) (DE.fpL (de_callF c_pairs_of.ok (hr.mono (by decide)) rfl c_pairs_of.mg c_pairs_of.kp c_pairs_of.bd passC (da_cons (de_var (pv 0) rfl) (da_one (de_var (pv 1) rfl))) (imm_cLst (imm_tup (imm_C (imm_tup (imm_C imm_int (imm_1 imm_int))) (imm_1 (imm_tup (imm_C imm_int (imm_1 imm_int))))))) (wkN rfl))) (fun A outer s H f c' hr (pair_1 : ((Int × Int) × (Int × Int))) => dec (de_tup (dp_cons (de_call c_steps_between.ok (hr.mono (by decide)) rfl c_steps_between.mg c_steps_between.kp c_steps_between.bd passC (da_cons (de_nth (de_var (pv 2) rfl) nth_0) (da_one (de_nth (de_var (pv 2) rfl) (nth_s nth_1)))) imm_int (wkN rfl)) (dp_one (de_var (pv 2) rfl)))) (by first | rfl | (dsimp only [lxCx, cxOf]; try rfl))) (fun _ _ _ _ _ _ => rfl)) (fun _ => rfl))) (by unfold m_pairs_by_steps; simp only [bo, isIn_dec, andok, orok]), fun _ => .inl rfl⟩
def m_moved_own (corner_p : (Int × Int)) (letter_p : PySem.Str) : R Er (Int × Int) := (R.ok corner_p).bind fun (t1 : (Int × Int)) =>
  if (decide (letter_p = ("E" : PySem.Str))) then (R.ok ((t1.1 + (1 : Int)), t1.2)) else
  (if (decide (letter_p = ("N" : PySem.Str))) then (R.ok (t1.1, (t1.2 + (1 : Int)))) else
  (R.ok (t1.1, (t1.2 - (1 : Int)))))
abbrev sp_moved_own (P : Program) (w : World) (K : PySem.W.Frag) : Sp := spD (K := K) EX (tysC yCn (tys1 yStr)) (qP (K := K) yCn) (fun a => m_moved_own a.1 a.2)
theorem sc_moved_own : FnScope ["corner", "letter", "x", "y"] ["corner", "letter"] (defScope s_moved_own) := ⟨rfl, rfl, rfl, by decide +kernel, rfl, by decide +kernel, by decide +kernel⟩
theorem ok_moved_own {P : Program} {w : World} {K : PySem.W.Frag} {mg : Str → Option Value} {base : Heap} {f : Addr} {fd : FuncData} (F : FnP K "moved" s_moved_own f fd) (oc : OC K) (bt : Bt mg) : FnOk P w K mg base CX 1 f fd ["corner", "letter"] (sp_moved_own P w K) := by
  refine fn_ok F sc_moved_own (entC (ent1 rfl)) rfl fun cdv A outer s H E hr a => ?_
  obtain ⟨corner_p, letter_p⟩ := a
  have sc := sc_moved_own
  exact ⟨_, fun c => .rt (qP (K := K) yCn c), DS.cast (m' := m_moved_own corner_p letter_p) (ds_cons (ρ1 := fun (t1 : (Int × Int)) => [some (.pl yCn corner_p), some (.pl yStr letter_p), some (.pl yInt t1.1), some (.pl yInt t1.2)]) (ds_asg (de_var (pv 0) rfl) (dg_tup rfl (dgs_c (ρ' := fun (a2 : Int) => [some (.pl yCn corner_p), some (.pl yStr letter_p), some (.pl yInt a2), none]) (dg_name (pg_name (i := 2) sc.nd rfl (.inl rfl))) (fun (a2 : Int) => dgs_1 (ρ' := fun (a3 : Int) => [some (.pl yCn corner_p), some (.pl yStr letter_p), some (.pl yInt a2), some (.pl yInt a3)]) (dg_name (pg_name (i := 3) sc.nd rfl (.inl rfl))))))) (fun (t1 : (Int × Int)) => ds_ift (DQ.dt (dq_eqS (de_var (pv 1) rfl) (de_c (T := yStr) (a := ("E" : PySem.Str)) pe_str (fun _ => ⟨rfl, by decide +kernel⟩)))) (ds_one (ds_ret (f := (fun a => a)) (de_tup (dp_cons (de_add (de_var (pv 2) rfl) (de_c (T := yInt) (a := (1 : Int)) pe_int (fun _ => rfl))) (dp_one (de_var (pv 3) rfl)))) (fun _ => rfl))) (fun _ => rfl) (ds_ift (DQ.dt (dq_eqS (de_var (pv 1) rfl) (de_c (T := yStr) (a := ("N" : PySem.Str)) pe_str (fun _ => ⟨rfl, by decide +kernel⟩)))) (ds_one (ds_ret (f := (fun a => a)) (de_tup (dp_cons (de_var (pv 2) rfl) (dp_one (de_add (de_var (pv 3) rfl) (de_c (T := yInt) (a := (1 : Int)) pe_int (fun _ => rfl)))))) (fun _ => rfl))) (fun _ => rfl) (ds_one (ds_ret (f := (fun a => a)) (de_tup (dp_cons (de_var (pv 2) rfl) (dp_one (de_sub (de_var (pv 3) rfl) (de_c (T := yInt) (a := (1 : Int)) pe_int (fun _ => rfl)))))) (fun _ => rfl)))))) (by unfold m_moved_own; simp only [bo, isIn_dec, andok, orok]), fun _ => .inl rfl⟩
def m_first_letter (table_p : (List (((Int × Int) × (Int × Int)) × PySem.Str))) (p_p : (Int × Int)) (q_p : (Int × Int)) : R Er PySem.Str := if (decide (p_p.2 = q_p.2)) then (R.ok ("E" : PySem.Str)) else
  (if (decide (p_p.1 = q_p.1)) then (if (decide (p_p.2 < q_p.2)) then (R.ok ("N" : PySem.Str)) else
  (R.ok ("S" : PySem.Str))) else
  (((rGet table_p (p_p, q_p))).bind fun v1 => R.ok v1))
abbrev sp_first_letter (P : Program) (w : World) (K : PySem.W.Frag) : Sp := spD (K := K) EX (tysC (yDic P w (kTup (ksC (kTup (ksC kInt (ks1 kInt))) (ks1 (kTup (ksC kInt (ks1 kInt)))))) yStr) (tysC yCn (tys1 yCn))) (qP (K := K) yStr) (fun a => m_first_letter a.1 a.2.1 a.2.2)
theorem sc_first_letter : FnScope ["table", "p", "q"] ["table", "p", "q"] (defScope s_first_letter) := ⟨rfl, rfl, rfl, by decide +kernel, rfl, by decide +kernel, by decide +kernel⟩
theorem ok_first_letter {P : Program} {w : World} {K : PySem.W.Frag} {mg : Str → Option Value} {base : Heap} {f : Addr} {fd : FuncData} (F : FnP K "first_letter" s_first_letter f fd) (oc : OC K) (bt : Bt mg) : FnOk P w K mg base CX 1 f fd ["table", "p", "q"] (sp_first_letter P w K) := by
  refine fn_ok F sc_first_letter (entC (entC (ent1 rfl))) rfl fun cdv A outer s H E hr a => ?_
  obtain ⟨table_p, p_p, q_p⟩ := a
  have sc := sc_first_letter
  exact ⟨_, fun c => .rt (qP (K := K) yStr c), DS.cast (m' := m_first_letter table_p p_p q_p) (ds_ift (DQ.dt (dq_eqI (de_nth (de_var (pv 1) rfl) (nth_s nth_1)) (de_nth (de_var (pv 2) rfl) (nth_s nth_1)))) (ds_one (ds_ret (f := (fun a => a)) (de_c (T := yStr) (a := ("E" : PySem.Str)) pe_str (fun _ => ⟨rfl, by decide +kernel⟩)) (fun _ => rfl))) (fun _ => rfl) (ds_ift (DQ.dt (dq_eqI (de_nth (de_var (pv 1) rfl) nth_0) (de_nth (de_var (pv 2) rfl) nth_0))) (ds_ift (DQ.dt (dq_lt (de_nth (de_var (pv 1) rfl) (nth_s nth_1)) (de_nth (de_var (pv 2) rfl) (nth_s nth_1)))) (ds_one (ds_ret (f := (fun a => a)) (de_c (T := yStr) (a := ("N" : PySem.Str)) pe_str (fun _ => ⟨rfl, by decide +kernel⟩)) (fun _ => rfl))) (fun _ => rfl) (ds_one (ds_ret (f := (fun a => a)) (de_c (T := yStr) (a := ("S" : PySem.Str)) pe_str (fun _ => ⟨rfl, by decide +kernel⟩)) (fun _ => rfl)))) (fun _ => rfl) (ds_one (ds_ret (f := (fun a => a)) (de_getN ar_tup (u64 hr) (de_var (pv 0) rfl) (de_tup (dp_cons (de_var (pv 1) rfl) (dp_one (de_var (pv 2) rfl))))) (fun _ => rfl))))) (by unfold m_first_letter; simp only [bo, isIn_dec, andok, orok]), fun _ => .inl rfl⟩
def m_last_letters (board_p : (Int × Int)) (half_p : PySem.Str) (table_p : (List (((Int × Int) × (Int × Int)) × PySem.Str))) : R Er (List (((Int × Int) × (Int × Int)) × PySem.Str)) := (R.ok ([] : List (((Int × Int) × (Int × Int)) × PySem.Str))).bind fun (lasts_1 : (List (((Int × Int) × (Int × Int)) × PySem.Str))) =>
  (((m_pairs_by_steps board_p half_p)).bind fun v13 => forS (fun (i2 : ((Int × Int) × (Int × Int))) (s3 : (List (((Int × Int) × (Int × Int)) × PySem.Str))) => ((((((((rGet table_p (i2.1, i2.2))).bind fun v6 => R.ok (i2.1, v6)).bind fun v7 => (m_moved_own v7.1 v7.2)).bind fun v8 => R.ok (v8, i2.2)).bind fun v9 => R.ok (s3, v9)).bind fun v10 => (m_first_letter v10.1 v10.2.1 v10.2.2)).bind fun v12 => (rApp s3 ((i2.1, i2.2), v12))).bind fun (c11 : (((Int × Int) × (Int × Int)) × PySem.Str)) =>
  R.ok (dput s3 c11.1 c11.2)) v13 lasts_1).bind fun (s14 : (List (((Int × Int) × (Int × Int)) × PySem.Str))) =>
  R.ok s14
abbrev sp_last_letters (P : Program) (w : World) (K : PySem.W.Frag) : Sp := spD (K := K) EX (tysC yCn (tysC yStr (tys1 (yDic P w (kTup (ksC (kTup (ksC kInt (ks1 kInt))) (ks1 (kTup (ksC kInt (ks1 kInt)))))) yStr)))) (qF (K := K) (cDic P w (kTup (ksC (kTup (ksC kInt (ks1 kInt))) (ks1 (kTup (ksC kInt (ks1 kInt)))))) yStr)) (fun a => m_last_letters a.1 a.2.1 a.2.2)
theorem sc_last_letters : FnScope ["board", "half", "table", "lasts", "p", "q"] ["board", "half", "table"] (defScope s_last_letters) := ⟨rfl, rfl, rfl, by decide +kernel, rfl, by decide +kernel, by decide +kernel⟩
theorem ok_last_letters {P : Program} {w : World} {K : PySem.W.Frag} {mg : Str → Option Value} {base : Heap} {f : Addr} {fd : FuncData} (F : FnP K "last_letters" s_last_letters f fd) (c_pairs_by_steps : Cal P w K mg base CX 5 "pairs_by_steps" ["board", "half"] (sp_pairs_by_steps P w K)) (c_moved_own : Cal P w K mg base CX 1 "moved" ["corner", "letter"] (sp_moved_own P w K)) (c_first_letter : Cal P w K mg base CX 1 "first_letter" ["table", "p", "q"] (sp_first_letter P w K)) (oc : OC K) (bt : Bt mg) : FnOk P w K mg base CX 6 f fd ["board", "half", "table"] (sp_last_letters P w K) := by
  refine fn_ok F sc_last_letters (entC (entC (ent1 rfl))) rfl fun cdv A outer s H E hr a => ?_
  obtain ⟨board_p, half_p, table_p⟩ := a
  have sc := sc_last_letters
  exact ⟨_, fun c => .rt (qF (K := K) (cDic P w (kTup (ksC (kTup (ksC kInt (ks1 kInt))) (ks1 (kTup (ksC kInt (ks1 kInt)))))) yStr) c), DS.cast (m' := m_last_letters board_p half_p table_p) (ds_cons (ρ1 := fun (lasts_1 : (List (((Int × Int) × (Int × Int)) × PySem.Str))) => [some (.pl yCn board_p), some (.pl yStr half_p), some (.pl (yDic P w (kTup (ksC (kTup (ksC kInt (ks1 kInt))) (ks1 (kTup (ksC kInt (ks1 kInt)))))) yStr) table_p), some (.ow (cDic P w (kTup (ksC (kTup (ksC kInt (ks1 kInt))) (ks1 (kTup (ksC kInt (ks1 kInt)))))) yStr) lasts_1), none, none]) (ds_setF (i := 3) sc.nd rfl (.inl rfl) (de_newN (k := (kTup (ksC (kTup (ksC kInt (ks1 kInt))) (ks1 (kTup (ksC kInt (ks1 kInt))))))) (U := yStr))) (fun (lasts_1 : (List (((Int × Int) × (Int × Int)) × PySem.Str))) => ds_cons (ρ1 := fun (s14 : (List (((Int × Int) × (Int × Int)) × PySem.Str))) => [some (.pl yCn board_p), some (.pl yStr half_p), some (.pl (yDic P w (kTup (ksC (kTup (ksC kInt (ks1 kInt))) (ks1 (kTup (ksC kInt (ks1 kInt)))))) yStr) table_p), some (.ow (cDic P w (kTup (ksC (kTup (ksC kInt (ks1 kInt))) (ks1 (kTup (ksC kInt (ks1 kInt)))))) yStr) s14), none, none]) (ds_forS (eH := fun (s3 : (List (((Int × Int) × (Int × Int)) × PySem.Str))) => [some (.pl yCn board_p), some (.pl yStr half_p), some (.pl (yDic P w (kTup (ksC (kTup (ksC kInt (ks1 kInt))) (ks1 (kTup (ksC kInt (ks1 kInt)))))) yStr) table_p), some (.ow (cDic P w (kTup (ksC (kTup (ksC kInt (ks1 kInt))) (ks1 (kTup (ksC kInt (ks1 kInt)))))) yStr) s3), none, none]) (eB := fun (s3 : (List (((Int × Int) × (Int × Int)) × PySem.Str))) (i2 : ((Int × Int) × (Int × Int))) => [some (.pl yCn board_p), some (.pl yStr half_p), some (.pl (yDic P w (kTup (ksC (kTup (ksC kInt (ks1 kInt))) (ks1 (kTup (ksC kInt (ks1 kInt)))))) yStr) table_p), some (.ow (cDic P w (kTup (ksC (kTup (ksC kInt (ks1 kInt))) (ks1 (kTup (ksC kInt (ks1 kInt)))))) yStr) s3), some (.pl yCn i2.1), some (.pl yCn i2.2)]) (a0 := lasts_1) (passes_of rfl) rfl (di_list (DE.fpL (de_callF c_pairs_by_steps.ok (hr.mono (by decide)) rfl c_pairs_by_steps.mg c_pairs_by_steps.kp c_pairs_by_steps.bd passC (da_cons (de_var (pv 0) rfl) (da_one (de_var (pv 1) rfl))) (imm_cLst (imm_tup (imm_C (imm_tup (imm_C imm_int (imm_1 imm_int))) (imm_1 (imm_tup (imm_C imm_int (imm_1 imm_int))))))) (wkN rfl)))) (.keep (.keep (.keep (.keep (.keep (.keep .nil)))))) (fun (s3 : (List (((Int × Int) × (Int × Int)) × PySem.Str))) => dg_tup rfl (dgs_c (ρ' := fun (a4 : (Int × Int)) => [some (.pl yCn board_p), some (.pl yStr half_p), some (.pl (yDic P w (kTup (ksC (kTup (ksC kInt (ks1 kInt))) (ks1 (kTup (ksC kInt (ks1 kInt)))))) yStr) table_p), some (.ow (cDic P w (kTup (ksC (kTup (ksC kInt (ks1 kInt))) (ks1 (kTup (ksC kInt (ks1 kInt)))))) yStr) s3), some (.pl yCn a4), none]) (dg_name (pg_name (i := 4) sc.nd rfl (.inl rfl))) (fun (a4 : (Int × Int)) => dgs_1 (ρ' := fun (a5 : (Int × Int)) => [some (.pl yCn board_p), some (.pl yStr half_p), some (.pl (yDic P w (kTup (ksC (kTup (ksC kInt (ks1 kInt))) (ks1 (kTup (ksC kInt (ks1 kInt)))))) yStr) table_p), some (.ow (cDic P w (kTup (ksC (kTup (ksC kInt (ks1 kInt))) (ks1 (kTup (ksC kInt (ks1 kInt)))))) yStr) s3), some (.pl yCn a4), some (.pl yCn a5)]) (dg_name (pg_name (i := 5) sc.nd rfl (.inl rfl)))))) (fun (s3 : (List (((Int × Int) × (Int × Int)) × PySem.Str))) (i2 : ((Int × Int) × (Int × Int))) => ds_cons (ρ1 := fun (c11 : (((Int × Int) × (Int × Int)) × PySem.Str)) => [some (.pl yCn board_p), some (.pl yStr half_p), some (.pl (yDic P w (kTup (ksC (kTup (ksC kInt (ks1 kInt))) (ks1 (kTup (ksC kInt (ks1 kInt)))))) yStr) table_p), some (.ow (cDic P w (kTup (ksC (kTup (ksC kInt (ks1 kInt))) (ks1 (kTup (ksC kInt (ks1 kInt)))))) yStr) (dput s3 c11.1 c11.2)), some (.pl yCn i2.1), some (.pl yCn i2.2)]) (ds_setN ar_tup (u64 hr) (pv 3) rfl (de_tup (dp_cons (de_var (pv 4) rfl) (dp_one (de_var (pv 5) rfl)))) (de_call c_first_letter.ok (hr.mono (by decide)) rfl c_first_letter.mg c_first_letter.kp c_first_letter.bd passC (da_cons (de_ownD (pv 3) rfl) (da_cons (de_call c_moved_own.ok (hr.mono (by decide)) rfl c_moved_own.mg c_moved_own.kp c_moved_own.bd passC (da_cons (de_var (pv 4) rfl) (da_one (de_getN ar_tup (u64 hr) (de_var (pv 2) rfl) (de_tup (dp_cons (de_var (pv 4) rfl) (dp_one (de_var (pv 5) rfl))))))) (imm_tup (imm_C imm_int (imm_1 imm_int))) (wkN rfl)) (da_one (de_var (pv 5) rfl)))) imm_str (wkN rfl))) (fun (c11 : (((Int × Int) × (Int × Int)) × PySem.Str)) => ds_nil (c := (dput s3 c11.1 c11.2)) (by first | exact .inl rfl | exact .inr rfl) (.keep (.keep (.keep (.keep (.drop (.drop .nil))))))))) (fun (s14 : (List (((Int × Int) × (Int × Int)) × PySem.Str))) => ds_one (ds_retO (c := s14) (pv 3) rfl rfl)))) (by unfold m_last_letters; simp only [bo, isIn_dec, andok, orok]), fun _ => .inl rfl⟩
def m_before (q_p : (Int × Int)) (letter_p : PySem.Str) : R Er (Int × Int) := (R.ok q_p).bind fun (t1 : (Int × Int)) =>
  if (decide (letter_p = ("E" : PySem.Str))) then (R.ok ((t1.1 - (1 : Int)), t1.2)) else
  (if (decide (letter_p = ("N" : PySem.Str))) then (R.ok (t1.1, (t1.2 - (1 : Int)))) else
  (R.ok (t1.1, (t1.2 + (1 : Int)))))
abbrev sp_before (P : Program) (w : World) (K : PySem.W.Frag) : Sp := spD (K := K) EX (tysC yCn (tys1 yStr)) (qP (K := K) yCn) (fun a => m_before a.1 a.2)
theorem sc_before : FnScope ["q", "letter", "x", "y"] ["q", "letter"] (defScope s_before) := ⟨rfl, rfl, rfl, by decide +kernel, rfl, by decide +kernel, by decide +kernel⟩
theorem ok_before {P : Program} {w : World} {K : PySem.W.Frag} {mg : Str → Option Value} {base : Heap} {f : Addr} {fd : FuncData} (F : FnP K "before" s_before f fd) (oc : OC K) (bt : Bt mg) : FnOk P w K mg base CX 1 f fd ["q", "letter"] (sp_before P w K) := by
  refine fn_ok F sc_before (entC (ent1 rfl)) rfl fun cdv A outer s H E hr a => ?_
  obtain ⟨q_p, letter_p⟩ := a
  have sc := sc_before
  exact ⟨_, fun c => .rt (qP (K := K) yCn c), DS.cast (m' := m_before q_p letter_p) (ds_cons (ρ1 := fun (t1 : (Int × Int)) => [some (.pl yCn q_p), some (.pl yStr letter_p), some (.pl yInt t1.1), some (.pl yInt t1.2)]) (ds_asg (de_var (pv 0) rfl) (dg_tup rfl (dgs_c (ρ' := fun (a2 : Int) => [some (.pl yCn q_p), some (.pl yStr letter_p), some (.pl yInt a2), none]) (dg_name (pg_name (i := 2) sc.nd rfl (.inl rfl))) (fun (a2 : Int) => dgs_1 (ρ' := fun (a3 : Int) => [some (.pl yCn q_p), some (.pl yStr letter_p), some (.pl yInt a2), some (.pl yInt a3)]) (dg_name (pg_name (i := 3) sc.nd rfl (.inl rfl))))))) (fun (t1 : (Int × Int)) => ds_ift (DQ.dt (dq_eqS (de_var (pv 1) rfl) (de_c (T := yStr) (a := ("E" : PySem.Str)) pe_str (fun _ => ⟨rfl, by decide +kernel⟩)))) (ds_one (ds_ret (f := (fun a => a)) (de_tup (dp_cons (de_sub (de_var (pv 2) rfl) (de_c (T := yInt) (a := (1 : Int)) pe_int (fun _ => rfl))) (dp_one (de_var (pv 3) rfl)))) (fun _ => rfl))) (fun _ => rfl) (ds_ift (DQ.dt (dq_eqS (de_var (pv 1) rfl) (de_c (T := yStr) (a := ("N" : PySem.Str)) pe_str (fun _ => ⟨rfl, by decide +kernel⟩)))) (ds_one (ds_ret (f := (fun a => a)) (de_tup (dp_cons (de_var (pv 2) rfl) (dp_one (de_sub (de_var (pv 3) rfl) (de_c (T := yInt) (a := (1 : Int)) pe_int (fun _ => rfl)))))) (fun _ => rfl))) (fun _ => rfl) (ds_one (ds_ret (f := (fun a => a)) (de_tup (dp_cons (de_var (pv 2) rfl) (dp_one (de_add (de_var (pv 3) rfl) (de_c (T := yInt) (a := (1 : Int)) pe_int (fun _ => rfl)))))) (fun _ => rfl)))))) (by unfold m_before; simp only [bo, isIn_dec, andok, orok]), fun _ => .inl rfl⟩
def m_find_broken_pair (board_p : (Int × Int)) (half_p : PySem.Str) (letters_p : PySem.Str) : R Er (Option ((Int × Int) × (Int × Int))) := ((m_letters_by_pair board_p half_p letters_p)).bind fun (table_1 : (List (((Int × Int) × (Int × Int)) × PySem.Str))) =>
  ((m_last_letters board_p half_p table_1)).bind fun (lasts_2 : (List (((Int × Int) × (Int × Int)) × PySem.Str))) =>
  R.seqX (((m_pairs_by_steps board_p half_p)).bind fun v13 => forX (fun (i3 : ((Int × Int) × (Int × Int))) (s4 : Unit) => ((((rGet lasts_2 (i3.1, i3.2))).bind fun v8 => R.ok (i3.2, v8)).bind fun v9 => (m_before v9.1 v9.2)).bind fun (end_7 : (Int × Int)) =>
  (((m_first_letter table_1 i3.1 end_7)).bind fun v10 => ((rGet table_1 (i3.1, i3.2))).bind fun v11 => R.ok (!decide (v10 = v11))).bind fun v12 => if v12 then (R.ok (.inr (some (i3.1, i3.2)))) else
  (R.ok (.inl ()))) v13 ()) (fun a => a) fun (s14 : Unit) =>
  R.ok (none : (Option ((Int × Int) × (Int × Int))))
abbrev sp_find_broken_pair (P : Program) (w : World) (K : PySem.W.Frag) : Sp := spD (K := K) EX (tysC yCn (tysC yStr (tys1 yStr))) (qP (K := K) (yOpt (yTup (tysC yCn (tys1 yCn))))) (fun a => m_find_broken_pair a.1 a.2.1 a.2.2)
theorem sc_find_broken_pair : FnScope ["board", "half", "letters", "table", "lasts", "p", "q", "end"] ["board", "half", "letters"] (defScope s_find_broken_pair) := ⟨rfl, rfl, rfl, by decide +kernel, rfl, by decide +kernel, by decide +kernel⟩
theorem ok_find_broken_pair {P : Program} {w : World} {K : PySem.W.Frag} {mg : Str → Option Value} {base : Heap} {f : Addr} {fd : FuncData} (F : FnP K "find_broken_pair" s_find_broken_pair f fd) (c_letters_by_pair : Cal P w K mg base CX 4 "letters_by_pair" ["board", "half", "letters"] (sp_letters_by_pair P w K)) (c_last_letters : Cal P w K mg base CX 6 "last_letters" ["board", "half", "table"] (sp_last_letters P w K)) (c_pairs_by_steps : Cal P w K mg base CX 5 "pairs_by_steps" ["board", "half"] (sp_pairs_by_steps P w K)) (c_before : Cal P w K mg base CX 1 "before" ["q", "letter"] (sp_before P w K)) (c_first_letter : Cal P w K mg base CX 1 "first_letter" ["table", "p", "q"] (sp_first_letter P w K)) (oc : OC K) (bt : Bt mg) : FnOk P w K mg base CX 7 f fd ["board", "half", "letters"] (sp_find_broken_pair P w K) := by
  refine fn_ok F sc_find_broken_pair (entC (entC (ent1 rfl))) rfl fun cdv A outer s H E hr a => ?_
  obtain ⟨board_p, half_p, letters_p⟩ := a
  have sc := sc_find_broken_pair
  exact ⟨_, fun c => .rt (qP (K := K) (yOpt (yTup (tysC yCn (tys1 yCn)))) c), DS.cast (m' := m_find_broken_pair board_p half_p letters_p) (ds_cons (ρ1 := fun (table_1 : (List (((Int × Int) × (Int × Int)) × PySem.Str))) => [some (.pl yCn board_p), some (.pl yStr half_p), some (.pl yStr letters_p), some (.ow (cDic P w (kTup (ksC (kTup (ksC kInt (ks1 kInt))) (ks1 (kTup (ksC kInt (ks1 kInt)))))) yStr) table_1), none, none, none, none]) (ds_setF (i := 3) sc.nd rfl (.inl rfl) (de_callF c_letters_by_pair.ok (hr.mono (by decide)) rfl c_letters_by_pair.mg c_letters_by_pair.kp c_letters_by_pair.bd passC (da_cons (de_var (pv 0) rfl) (da_cons (de_var (pv 1) rfl) (da_one (de_var (pv 2) rfl)))) (imm_cDic (imm_tup (imm_C (imm_tup (imm_C imm_int (imm_1 imm_int))) (imm_1 (imm_tup (imm_C imm_int (imm_1 imm_int)))))) imm_str) (wkN rfl))) (fun (table_1 : (List (((Int × Int) × (Int × Int)) × PySem.Str))) => ds_cons (ρ1 := fun (lasts_2 : (List (((Int × Int) × (Int × Int)) × PySem.Str))) => [some (.pl yCn board_p), some (.pl yStr half_p), some (.pl yStr letters_p), some (.ow (cDic P w (kTup (ksC (kTup (ksC kInt (ks1 kInt))) (ks1 (kTup (ksC kInt (ks1 kInt)))))) yStr) table_1), some (.ow (cDic P w (kTup (ksC (kTup (ksC kInt (ks1 kInt))) (ks1 (kTup (ksC kInt (ks1 kInt)))))) yStr) lasts_2), none, none, none]) (ds_setF (i := 4) sc.nd rfl (.inl rfl) (de_callF c_last_letters.ok (hr.mono (by decide)) rfl c_last_letters.mg c_last_letters.kp c_last_letters.bd passC (da_cons (de_var (pv 0) rfl) (da_cons (de_var (pv 1) rfl) (da_one (de_ownD (pv 3) rfl)))) (imm_cDic (imm_tup (imm_C (imm_tup (imm_C imm_int (imm_1 imm_int))) (imm_1 (imm_tup (imm_C imm_int (imm_1 imm_int)))))) imm_str) (wkN rfl))) (fun (lasts_2 : (List (((Int × Int) × (Int × Int)) × PySem.Str))) => ds_seqX (f := (fun a => a)) (ρ1 := fun (s14 : Unit) => [some (.pl yCn board_p), some (.pl yStr half_p), some (.pl yStr letters_p), some (.ow (cDic P w (kTup (ksC (kTup (ksC kInt (ks1 kInt))) (ks1 (kTup (ksC kInt (ks1 kInt)))))) yStr) table_1), some (.ow (cDic P w (kTup (ksC (kTup (ksC kInt (ks1 kInt))) (ks1 (kTup (ksC kInt (ks1 kInt)))))) yStr) lasts_2), none, none, none]) (ds_forX (eH := fun (s4 : Unit) => [some (.pl yCn board_p), some (.pl yStr half_p), some (.pl yStr letters_p), some (.ow (cDic P w (kTup (ksC (kTup (ksC kInt (ks1 kInt))) (ks1 (kTup (ksC kInt (ks1 kInt)))))) yStr) table_1), some (.ow (cDic P w (kTup (ksC (kTup (ksC kInt (ks1 kInt))) (ks1 (kTup (ksC kInt (ks1 kInt)))))) yStr) lasts_2), none, none, none]) (eB := fun (s4 : Unit) (i3 : ((Int × Int) × (Int × Int))) => [some (.pl yCn board_p), some (.pl yStr half_p), some (.pl yStr letters_p), some (.ow (cDic P w (kTup (ksC (kTup (ksC kInt (ks1 kInt))) (ks1 (kTup (ksC kInt (ks1 kInt)))))) yStr) table_1), some (.ow (cDic P w (kTup (ksC (kTup (ksC kInt (ks1 kInt))) (ks1 (kTup (ksC kInt (ks1 kInt)))))) yStr) lasts_2), some (.pl yCn i3.1), some (.pl yCn i3.2), none]) (a0 := ()) (passes_of rfl) rfl (di_list (DE.fpL (de_callF c_pairs_by_steps.ok (hr.mono (by decide)) rfl c_pairs_by_steps.mg c_pairs_by_steps.kp c_pairs_by_steps.bd passC (da_cons (de_var (pv 0) rfl) (da_one (de_var (pv 1) rfl))) (imm_cLst (imm_tup (imm_C (imm_tup (imm_C imm_int (imm_1 imm_int))) (imm_1 (imm_tup (imm_C imm_int (imm_1 imm_int))))))) (wkN rfl)))) (.keep (.keep (.keep (.keep (.keep (.keep (.keep (.keep .nil)))))))) (fun (s4 : Unit) => dg_tup rfl (dgs_c (ρ' := fun (a5 : (Int × Int)) => [some (.pl yCn board_p), some (.pl yStr half_p), some (.pl yStr letters_p), some (.ow (cDic P w (kTup (ksC (kTup (ksC kInt (ks1 kInt))) (ks1 (kTup (ksC kInt (ks1 kInt)))))) yStr) table_1), some (.ow (cDic P w (kTup (ksC (kTup (ksC kInt (ks1 kInt))) (ks1 (kTup (ksC kInt (ks1 kInt)))))) yStr) lasts_2), some (.pl yCn a5), none, none]) (dg_name (pg_name (i := 5) sc.nd rfl (.inl rfl))) (fun (a5 : (Int × Int)) => dgs_1 (ρ' := fun (a6 : (Int × Int)) => [some (.pl yCn board_p), some (.pl yStr half_p), some (.pl yStr letters_p), some (.ow (cDic P w (kTup (ksC (kTup (ksC kInt (ks1 kInt))) (ks1 (kTup (ksC kInt (ks1 kInt)))))) yStr) table_1), some (.ow (cDic P w (kTup (ksC (kTup (ksC kInt (ks1 kInt))) (ks1 (kTup (ksC kInt (ks1 kInt)))))) yStr) lasts_2), some (.pl yCn a5), some (.pl yCn a6), none]) (dg_name (pg_name (i := 6) sc.nd rfl (.inl rfl)))))) (fun _ => ⟨_, rfl⟩) (fun (s4 : Unit) (i3 : ((Int × Int) × (Int × Int))) => ds_cons (ρ1 := fun (end_7 : (Int × Int)) => [some (.pl yCn board_p), some (.pl yStr half_p), some (.pl yStr letters_p), some (.ow (cDic P w (kTup (ksC (kTup (ksC kInt (ks1 kInt))) (ks1 (kTup (ksC kInt (ks1 kInt)))))) yStr) table_1), some (.ow (cDic P w (kTup (ksC (kTup (ksC kInt (ks1 kInt))) (ks1 (kTup (ksC kInt (ks1 kInt)))))) yStr) lasts_2), some (.pl yCn i3.1), some (.pl yCn i3.2), some (.pl yCn end_7)]) (ds_set (i := 7) sc.nd rfl (.inl rfl) (de_call c_before.ok (hr.mono (by decide)) rfl c_before.mg c_before.kp c_before.bd passC (da_cons (de_var (pv 6) rfl) (da_one (de_getN ar_tup (u64 hr) (de_ownD (pv 4) rfl) (de_tup (dp_cons (de_var (pv 5) rfl) (dp_one (de_var (pv 6) rfl))))))) (imm_tup (imm_C imm_int (imm_1 imm_int))) (wkN rfl))) (fun (end_7 : (Int × Int)) => ds_one (ds_if1 (DQ.dt (dq_neS (de_call c_first_letter.ok (hr.mono (by decide)) rfl c_first_letter.mg c_first_letter.kp c_first_letter.bd passC (da_cons (de_ownD (pv 3) rfl) (da_cons (de_var (pv 5) rfl) (da_one (de_var (pv 7) rfl)))) imm_str (wkN rfl)) (de_getN ar_tup (u64 hr) (de_ownD (pv 3) rfl) (de_tup (dp_cons (de_var (pv 5) rfl) (dp_one (de_var (pv 6) rfl))))))) (ds_one (ds_ret (f := (fun a => (.inr a))) (DE.as_ (U := (yOpt (yTup (tysC yCn (tys1 yCn))))) (f := some) (de_tup (dp_cons (de_var (pv 5) rfl) (dp_one (de_var (pv 6) rfl)))) (fun h => ⟨h, nn_tup h⟩)) (fun _ => rfl))) (ds_nil (c := (.inl ())) (by first | exact .inl rfl | exact .inr rfl) (.keep (.keep (.keep (.keep (.keep (.drop (.drop (.drop .nil))))))))))))) (fun (s14 : Unit) => ds_one (ds_ret (f := (fun a => a)) (DE.as_ (U := (yOpt (yTup (tysC yCn (tys1 yCn))))) (f := fun _ => none) (de_c (T := yNon) (a := ()) pe_non (fun _ => rfl)) (fun h => h)) (fun _ => rfl))) (fun x => by first | exact ⟨rfl, trivial⟩ | (cases x <;> exact ⟨rfl, trivial⟩))))) (by unfold m_find_broken_pair; simp only [bo, isIn_dec, andok, orok]), fun _ => .inl rfl⟩
def m_Plane_init (board_p : (Int × Int)) (rising_p : PySem.Str) (falling_p : PySem.Str) : R Er ((((Unit × (Int × Int)) × PySem.Str) × PySem.Str) × (List (((Int × Int) × (Int × Int)) × PySem.Str))) := (R.ok ([(("rising" : PySem.Str), rising_p), (("falling" : PySem.Str), falling_p)] : List (PySem.Str × PySem.Str))).bind fun (halves_1 : (List (PySem.Str × PySem.Str))) =>
  (forS (fun (i2 : (PySem.Str × PySem.Str)) (s3 : Unit) => (((m_has_table_form board_p i2.1 i2.2)).bind fun v6 => R.ok (!v6)).bind fun v7 => if v7 then R.bad else
  (R.ok ())) halves_1 ()).bind fun (s8 : Unit) =>
  (forS (fun (i9 : (PySem.Str × PySem.Str)) (s10 : Unit) => ((m_find_broken_pair board_p i9.1 i9.2)).bind fun (pair_13 : (Option ((Int × Int) × (Int × Int)))) =>
  if (Option.isSome pair_13) then ((unO pair_13).bind fun (pair_14 : ((Int × Int) × (Int × Int))) =>
  R.bad) else
  (R.ok ())) halves_1 ()).bind fun (s15 : Unit) =>
  (R.ok (board_p.1, board_p.2)).bind fun (board_16 : (Int × Int)) =>
  (R.ok rising_p).bind fun (rising_17 : PySem.Str) =>
  (R.ok falling_p).bind fun (falling_18 : PySem.Str) =>
  ((m_letters_by_pair board_p ("rising" : PySem.Str) rising_p)).bind fun (l1 : (List (((Int × Int) × (Int × Int)) × PySem.Str))) => ((m_letters_by_pair board_p ("falling" : PySem.Str) falling_p)).bind fun (l2 : (List (((Int × Int) × (Int × Int)) × PySem.Str))) => (mergeD l1 l2).bind fun c => R.ok (((((), board_16), rising_17), falling_18), c)
abbrev sp_Plane_init (P : Program) (w : World) (K : PySem.W.Frag) : Sp := spI (K := K) EX "Plane" ["board", "rising", "falling", "letters"] (tysC yCn (tysC yStr (tys1 yStr))) (tysL (tysL (tysL (tysL tys0 yCn) yStr) yStr) (yDic P w (kTup (ksC (kTup (ksC kInt (ks1 kInt))) (ks1 (kTup (ksC kInt (ks1 kInt)))))) yStr)) (fun a => m_Plane_init a.1 a.2.1 a.2.2)
theorem sc_Plane_init : FnScope ["self", "board", "rising", "falling", "halves", "half", "letters", "pair", "falls"] ["self", "board", "rising", "falling"] (defScope s_Plane_init) := ⟨rfl, rfl, rfl, by decide +kernel, rfl, by decide +kernel, by decide +kernel⟩
theorem ok_Plane_init {P : Program} {w : World} {K : PySem.W.Frag} {mg : Str → Option Value} {base : Heap} {f : Addr} {fd : FuncData} (F : FnQ K "__init__" "Plane.__init__" s_Plane_init f fd) (c_has_table_form : Cal P w K mg base CX 4 "has_table_form" ["board", "half", "letters"] (sp_has_table_form P w K)) (c_find_broken_pair : Cal P w K mg base CX 7 "find_broken_pair" ["board", "half", "letters"] (sp_find_broken_pair P w K)) (c_letters_by_pair : Cal P w K mg base CX 4 "letters_by_pair" ["board", "half", "letters"] (sp_letters_by_pair P w K)) (oc : OC K) (bt : Bt mg) : FnOk P w K mg base CX 8 f fd ["self", "board", "rising", "falling"] (sp_Plane_init P w K) := by
  refine fn_okI F sc_Plane_init (entC (entC (ent1 rfl))) rfl fun p0 cdv A outer s H E hr a => ?_
  obtain ⟨board_p, rising_p, falling_p⟩ := a
  have sc := sc_Plane_init
  exact ⟨_, fun (c : ((((Unit × (Int × Int)) × PySem.Str) × PySem.Str) × (List (((Int × Int) × (Int × Int)) × PySem.Str)))) => .nx (some (.ow (cObjA p0 "Plane" ["board", "rising", "falling", "letters"] (tysL (tysL (tysL (tysL tys0 yCn) yStr) yStr) (yDic P w (kTup (ksC (kTup (ksC kInt (ks1 kInt))) (ks1 (kTup (ksC kInt (ks1 kInt)))))) yStr))) c) :: nones 8), DS.cast (m' := m_Plane_init board_p rising_p falling_p) (ds_cons (ρ1 := fun (halves_1 : (List (PySem.Str × PySem.Str))) => [some (.ow (cObjA p0 "Plane" [] tys0) ()), some (.pl yCn board_p), some (.pl yStr rising_p), some (.pl yStr falling_p), some (.ow (cLst (yTup (tysC yStr (tys1 yStr)))) halves_1), none, none, none, none]) (ds_setF (i := 4) sc.nd rfl (.inl rfl) (de_lst (T := (yTup (tysC yStr (tys1 yStr)))) (dl_cons (de_tup (dp_cons (de_gS rfl bt.k_RISING) (dp_one (de_var (pv 2) rfl)))) (dl_cons (de_tup (dp_cons (de_gS rfl bt.k_FALLING) (dp_one (de_var (pv 3) rfl)))) (dl_nil))))) (fun (halves_1 : (List (PySem.Str × PySem.Str))) => ds_give (i := 4) rfl (ds_cons (ρ1 := fun (s8 : Unit) => [some (.ow (cObjA p0 "Plane" [] tys0) ()), some (.pl yCn board_p), some (.pl yStr rising_p), some (.pl yStr falling_p), some (.pl (yLst (yTup (tysC yStr (tys1 yStr)))) halves_1), none, none, none, none]) (ds_forS (eH := fun (s3 : Unit) => [some (.ow (cObjA p0 "Plane" [] tys0) ()), some (.pl yCn board_p), some (.pl yStr rising_p), some (.pl yStr falling_p), some (.pl (yLst (yTup (tysC yStr (tys1 yStr)))) halves_1), none, none, none, none]) (eB := fun (s3 : Unit) (i2 : (PySem.Str × PySem.Str)) => [some (.ow (cObjA p0 "Plane" [] tys0) ()), some (.pl yCn board_p), some (.pl yStr rising_p), some (.pl yStr falling_p), some (.pl (yLst (yTup (tysC yStr (tys1 yStr)))) halves_1), some (.pl yStr i2.1), some (.pl yStr i2.2), none, none]) (a0 := ()) (passes_of rfl) rfl (di_list (de_var (pv 4) rfl)) (.keep (.keep (.keep (.keep (.keep (.keep (.keep (.keep (.keep .nil))))))))) (fun (s3 : Unit) => dg_tup rfl (dgs_c (ρ' := fun (a4 : PySem.Str) => [some (.ow (cObjA p0 "Plane" [] tys0) ()), some (.pl yCn board_p), some (.pl yStr rising_p), some (.pl yStr falling_p), some (.pl (yLst (yTup (tysC yStr (tys1 yStr)))) halves_1), some (.pl yStr a4), none, none, none]) (dg_name (pg_name (i := 5) sc.nd rfl (.inl rfl))) (fun (a4 : PySem.Str) => dgs_1 (ρ' := fun (a5 : PySem.Str) => [some (.ow (cObjA p0 "Plane" [] tys0) ()), some (.pl yCn board_p), some (.pl yStr rising_p), some (.pl yStr falling_p), some (.pl (yLst (yTup (tysC yStr (tys1 yStr)))) halves_1), some (.pl yStr a4), some (.pl yStr a5), none, none]) (dg_name (pg_name (i := 6) sc.nd rfl (.inl rfl)))))) (fun (s3 : Unit) (i2 : (PySem.Str × PySem.Str)) => ds_one (ds_if1 (dt_not (dt_val (de_call c_has_table_form.ok (hr.mono (by decide)) rfl c_has_table_form.mg c_has_table_form.kp c_has_table_form.bd passC (da_cons (de_var (pv 1) rfl) (da_cons (de_var (pv 5) rfl) (da_one (de_var (pv 6) rfl)))) imm_bl (wkN rfl)))) (ds_bad) (ds_nil (c := ()) (by first | exact .inl rfl | exact .inr rfl) (.keep (.keep (.keep (.keep (.keep (.drop (.drop (.keep (.keep .nil))))))))))))) (fun (s8 : Unit) => ds_cons (ρ1 := fun (s15 : Unit) => [some (.ow (cObjA p0 "Plane" [] tys0) ()), some (.pl yCn board_p), some (.pl yStr rising_p), some (.pl yStr falling_p), some (.pl (yLst (yTup (tysC yStr (tys1 yStr)))) halves_1), none, none, none, none]) (ds_forS (eH := fun (s10 : Unit) => [some (.ow (cObjA p0 "Plane" [] tys0) ()), some (.pl yCn board_p), some (.pl yStr rising_p), some (.pl yStr falling_p), some (.pl (yLst (yTup (tysC yStr (tys1 yStr)))) halves_1), none, none, none, none]) (eB := fun (s10 : Unit) (i9 : (PySem.Str × PySem.Str)) => [some (.ow (cObjA p0 "Plane" [] tys0) ()), some (.pl yCn board_p), some (.pl yStr rising_p), some (.pl yStr falling_p), some (.pl (yLst (yTup (tysC yStr (tys1 yStr)))) halves_1), some (.pl yStr i9.1), some (.pl yStr i9.2), none, none]) (a0 := ()) (passes_of rfl) rfl (di_list (de_var (pv 4) rfl)) (.keep (.keep (.keep (.keep (.keep (.keep (.keep (.keep (.keep .nil))))))))) (fun (s10 : Unit) => dg_tup rfl (dgs_c (ρ' := fun (a11 : PySem.Str) => [some (.ow (cObjA p0 "Plane" [] tys0) ()), some (.pl yCn board_p), some (.pl yStr rising_p), some (.pl yStr falling_p), some (.pl (yLst (yTup (tysC yStr (tys1 yStr)))) halves_1), some (.pl yStr a11), none, none, none]) (dg_name (pg_name (i := 5) sc.nd rfl (.inl rfl))) (fun (a11 : PySem.Str) => dgs_1 (ρ' := fun (a12 : PySem.Str) => [some (.ow (cObjA p0 "Plane" [] tys0) ()), some (.pl yCn board_p), some (.pl yStr rising_p), some (.pl yStr falling_p), some (.pl (yLst (yTup (tysC yStr (tys1 yStr)))) halves_1), some (.pl yStr a11), some (.pl yStr a12), none, none]) (dg_name (pg_name (i := 6) sc.nd rfl (.inl rfl)))))) (fun (s10 : Unit) (i9 : (PySem.Str × PySem.Str)) => ds_cons (ρ1 := fun (pair_13 : (Option ((Int × Int) × (Int × Int)))) => [some (.ow (cObjA p0 "Plane" [] tys0) ()), some (.pl yCn board_p), some (.pl yStr rising_p), some (.pl yStr falling_p), some (.pl (yLst (yTup (tysC yStr (tys1 yStr)))) halves_1), some (.pl yStr i9.1), some (.pl yStr i9.2), some (.pl (yOpt (yTup (tysC yCn (tys1 yCn)))) pair_13), none]) (ds_set (i := 7) sc.nd rfl (.inl rfl) (de_call c_find_broken_pair.ok (hr.mono (by decide)) rfl c_find_broken_pair.mg c_find_broken_pair.kp c_find_broken_pair.bd passC (da_cons (de_var (pv 1) rfl) (da_cons (de_var (pv 5) rfl) (da_one (de_var (pv 6) rfl)))) (imm_opt (imm_tup (imm_C (imm_tup (imm_C imm_int (imm_1 imm_int))) (imm_1 (imm_tup (imm_C imm_int (imm_1 imm_int))))))) (wkN rfl))) (fun (pair_13 : (Option ((Int × Int) × (Int × Int)))) => ds_one (ds_if1 (DQ.dt (dq_notN (de_var (pv 7) rfl))) (ds_unopt (i := 7) rfl (fun (pair_14 : ((Int × Int) × (Int × Int))) => ds_bad)) (ds_nil (c := ()) (by first | exact .inl rfl | exact .inr rfl) (.keep (.keep (.keep (.keep (.keep (.drop (.drop (.drop (.keep .nil)))))))))))))) (fun (s15 : Unit) => ds_cons (ρ1 := fun (board_16 : (Int × Int)) => [some (.ow (cObjA p0 "Plane" ["board"] (tysL tys0 yCn)) ((), board_16)), some (.pl yCn board_p), some (.pl yStr rising_p), some (.pl yStr falling_p), some (.pl (yLst (yTup (tysC yStr (tys1 yStr)))) halves_1), none, none, none, none]) (ds_fld (x := "Plane") (f := "board") (fs := []) (W := tys0) (i := 0) oc.c_Plane oc.n_Plane_board (by decide +kernel) (by decide) (pv 0) rfl (de_tup (dp_cons (de_nth (de_var (pv 1) rfl) nth_0) (dp_one (de_nth (de_var (pv 1) rfl) (nth_s nth_1)))))) (fun (board_16 : (Int × Int)) => ds_cons (ρ1 := fun (rising_17 : PySem.Str) => [some (.ow (cObjA p0 "Plane" ["board", "rising"] (tysL (tysL tys0 yCn) yStr)) (((), board_16), rising_17)), some (.pl yCn board_p), some (.pl yStr rising_p), some (.pl yStr falling_p), some (.pl (yLst (yTup (tysC yStr (tys1 yStr)))) halves_1), none, none, none, none]) (ds_fld (x := "Plane") (f := "rising") (fs := ["board"]) (W := (tysL tys0 yCn)) (i := 0) oc.c_Plane oc.n_Plane_rising (by decide +kernel) (by decide) (pv 0) rfl (de_var (pv 2) rfl)) (fun (rising_17 : PySem.Str) => ds_cons (ρ1 := fun (falling_18 : PySem.Str) => [some (.ow (cObjA p0 "Plane" ["board", "rising", "falling"] (tysL (tysL (tysL tys0 yCn) yStr) yStr)) ((((), board_16), rising_17), falling_18)), some (.pl yCn board_p), some (.pl yStr rising_p), some (.pl yStr falling_p), some (.pl (yLst (yTup (tysC yStr (tys1 yStr)))) halves_1), none, none, none, none]) (ds_fld (x := "Plane") (f := "falling") (fs := ["board", "rising"]) (W := (tysL (tysL tys0 yCn) yStr)) (i := 0) oc.c_Plane oc.n_Plane_falling (by decide +kernel) (by decide) (pv 0) rfl (de_var (pv 3) rfl)) (fun (falling_18 : PySem.Str) => ds_mergeN (p0 := p0) (x := "Plane") (f := "letters") (fs := ["board", "rising", "falling"]) (W := (tysL (tysL (tysL tys0 yCn) yStr) yStr)) (a0 := ((((), board_16), rising_17), falling_18)) (k := (kTup (ksC (kTup (ksC kInt (ks1 kInt))) (ks1 (kTup (ksC kInt (ks1 kInt))))))) (U := yStr) (jf := 8) (jp := 7) (ρ2 := [some (.pl (yRef p0) ()), some (.pl yCn board_p), some (.pl yStr rising_p), some (.pl yStr falling_p), some (.pl (yLst (yTup (tysC yStr (tys1 yStr)))) halves_1), none, none, none, none]) (ρ3 := fun (l19 : (List (((Int × Int) × (Int × Int)) × PySem.Str))) => [some (.pl (yRef p0) ()), some (.pl yCn board_p), some (.pl yStr rising_p), some (.pl yStr falling_p), some (.pl (yLst (yTup (tysC yStr (tys1 yStr)))) halves_1), none, none, none, some (.pl (yDic P w (kTup (ksC (kTup (ksC kInt (ks1 kInt))) (ks1 (kTup (ksC kInt (ks1 kInt)))))) yStr) l19)]) (eH := fun (l19 : (List (((Int × Int) × (Int × Int)) × PySem.Str))) => [some (.pl (yRef p0) ()), some (.pl yCn board_p), some (.pl yStr rising_p), some (.pl yStr falling_p), some (.pl (yLst (yTup (tysC yStr (tys1 yStr)))) halves_1), none, none, none, some (.pl (yDic P w (kTup (ksC (kTup (ksC kInt (ks1 kInt))) (ks1 (kTup (ksC kInt (ks1 kInt)))))) yStr) l19)]) (ρ4 := fun (l19 : (List (((Int × Int) × (Int × Int)) × PySem.Str))) (a20 : ((Int × Int) × (Int × Int))) => [some (.pl (yRef p0) ()), some (.pl yCn board_p), some (.pl yStr rising_p), some (.pl yStr falling_p), some (.pl (yLst (yTup (tysC yStr (tys1 yStr)))) halves_1), none, none, some (.pl (yTup (tysC yCn (tys1 yCn))) a20), some (.pl (yDic P w (kTup (ksC (kTup (ksC kInt (ks1 kInt))) (ks1 (kTup (ksC kInt (ks1 kInt)))))) yStr) l19)]) sc.nd rfl (.inl rfl) rfl (.inl rfl) (passes_of rfl) rfl (u64 hr) ar_tup (lo rfl) oc.c_Plane oc.n_Plane_letters (by decide +kernel) (by decide +kernel) (by decide) (pv 0) (pv 0) (pv 8) (pv 8) (pv 7) (pv 7) rfl (de_callF c_letters_by_pair.ok (hr.mono (by decide)) rfl c_letters_by_pair.mg c_letters_by_pair.kp c_letters_by_pair.bd passC (da_cons (de_var (pv 1) rfl) (da_cons (de_gS rfl bt.k_RISING) (da_one (de_var (pv 2) rfl)))) (imm_cDic (imm_tup (imm_C (imm_tup (imm_C imm_int (imm_1 imm_int))) (imm_1 (imm_tup (imm_C imm_int (imm_1 imm_int)))))) imm_str) (wkN rfl)) (noOw_of rfl) (DE.fp (de_callF c_letters_by_pair.ok (hr.mono (by decide)) rfl c_letters_by_pair.mg c_letters_by_pair.kp c_letters_by_pair.bd passC (da_cons (de_var (pv 1) rfl) (da_cons (de_gS rfl bt.k_FALLING) (da_one (de_var (pv 3) rfl)))) (imm_cDic (imm_tup (imm_C (imm_tup (imm_C imm_int (imm_1 imm_int))) (imm_1 (imm_tup (imm_C imm_int (imm_1 imm_int)))))) imm_str) (wkN rfl)) (fun h => h)) (fun _ => noOw_of rfl) (fun _ => (.keep (.keep (.keep (.keep (.keep (.keep (.keep (.keep (.keep .nil)))))))))) (fun _ => rfl) (fun _ => rfl) (fun _ _ => noOw_of rfl) (fun _ _ => rfl) (fun _ _ => rfl) (fun _ _ => rfl) (fun _ _ => (.keep (.keep (.keep (.keep (.keep (.keep (.keep (.drop (.keep .nil)))))))))) (fun c21 _ => ⟨_, rfl, (.keep (.drop (.drop (.drop (.drop (.keep (.keep (.keep (.drop .nil)))))))))⟩))))))))) (by unfold m_Plane_init; simp only [bo, isIn_dec, andok, orok]), fun _ => ⟨_, rfl, rfl⟩⟩
def m_line (table_p : (List (((Int × Int) × (Int × Int)) × PySem.Str))) (p_p : (Int × Int)) (q_p : (Int × Int)) : R Er (List (Int × Int)) := if (ltC q_p p_p) then ((((m_walk table_p q_p p_p)).bind fun v1 => R.ok (List.reverse v1)).bind fun v2 => R.ok v2) else
  (((m_walk table_p p_p q_p)).bind fun v3 => R.ok v3)
abbrev sp_line (P : Program) (w : World) (K : PySem.W.Frag) : Sp := spD (K := K) EX (tysC (yDic P w (kTup (ksC (kTup (ksC kInt (ks1 kInt))) (ks1 (kTup (ksC kInt (ks1 kInt)))))) yStr) (tysC yCn (tys1 yCn))) (qF (K := K) (cLst yCn)) (fun a => m_line a.1 a.2.1 a.2.2)
theorem sc_line : FnScope ["_law_table", "_law_p", "_law_q"] ["_law_table", "_law_p", "_law_q"] (defScope s_line) := ⟨rfl, rfl, rfl, by decide +kernel, rfl, by decide +kernel, by decide +kernel⟩
theorem ok_line {P : Program} {w : World} {K : PySem.W.Frag} {mg : Str → Option Value} {base : Heap} {f : Addr} {fd : FuncData} (F : FnP K "_law_line" s_line f fd) (c_walk : Cal P w K mg base CX 2 "_law_walk" ["_law_table", "_law_p", "_law_q"] (sp_walk P w K)) (oc : OC K) (bt : Bt mg) : FnOk P w K mg base CX 3 f fd ["_law_table", "_law_p", "_law_q"] (sp_line P w K) := by
  refine fn_ok F sc_line (entC (entC (ent1 rfl))) rfl fun cdv A outer s H E hr a => ?_
  obtain ⟨table_p, p_p, q_p⟩ := a
  have sc := sc_line
  exact ⟨_, fun c => .rt (qF (K := K) (cLst yCn) c), DS.cast (m' := m_line table_p p_p q_p) (ds_ift (DQ.dt (dq_ltC (u0 hr) (de_var (pv 2) rfl) (de_var (pv 1) rfl))) (ds_one (ds_retF (f := (fun a => a)) (de_rev (imm_tup (imm_C imm_int (imm_1 imm_int))) (DE.fpL (de_callF c_walk.ok (hr.mono (by decide)) rfl c_walk.mg c_walk.kp c_walk.bd passC (da_cons (de_var (pv 0) rfl) (da_cons (de_var (pv 2) rfl) (da_one (de_var (pv 1) rfl)))) (imm_cLst (imm_tup (imm_C imm_int (imm_1 imm_int)))) (wkN rfl)))) (fun _ => rfl))) (fun _ => rfl) (ds_one (ds_retF (f := (fun a => a)) (de_callF c_walk.ok (hr.mono (by decide)) rfl c_walk.mg c_walk.kp c_walk.bd passC (da_cons (de_var (pv 0) rfl) (da_cons (de_var (pv 1) rfl) (da_one (de_var (pv 2) rfl)))) (imm_cLst (imm_tup (imm_C imm_int (imm_1 imm_int)))) (wkN rfl)) (fun _ => rfl)))) (by unfold m_line; simp only [bo, isIn_dec, andok, orok]), fun _ => .inl rfl⟩
def m_given (board_here_p : (Int × Int)) (table_p : (List (((Int × Int) × (Int × Int)) × PySem.Str))) (cell_here_p : Int) : R Er (List (Int × Int)) := (((((rRepL ([(board_here_p.1 + (1 : Int)), (board_here_p.2 + (1 : Int))] : List Int) (6 : Int))).bind fun v2 => (rCatL ([(7 : Int), (8 : Int)] : List Int) v2)).bind fun v3 => R.ok (cell_here_p, v3)).bind fun v4 => (m_draws v4.1 v4.2)).bind fun (d_1 : (List Int)) =>
  ((((rIx d_1 (0 : Int))).bind fun v6 => (rRng 0 v6)).bind fun v14 => (lcR (fun (k_7 : Int) => (R.ok true)) (fun (k_7 : Int) => ((((rMul (2 : Int) k_7)).bind fun v8 => R.ok ((2 : Int) + v8)).bind fun v9 => (rIx d_1 v9)).bind fun v12 => ((((rMul (2 : Int) k_7)).bind fun v10 => R.ok ((3 : Int) + v10)).bind fun v11 => (rIx d_1 v11)).bind fun v13 => R.ok (v12, v13)) v14)).bind fun (corners_5 : (List (Int × Int))) =>
  ((((rIx d_1 (1 : Int))).bind fun v15 => R.ok (decide (v15 = (0 : Int)))).bind fun v16 => (if v16 then (R.ok (decide ((1 : Int) < (List.length corners_5 : Int)))) else R.ok false)).bind fun v31 => if v31 then (((((((rIx corners_5 (0 : Int))).bind fun v17 => ((rIx corners_5 (1 : Int))).bind fun v18 => R.ok (v17, v18)).bind fun v19 => R.ok (table_p, v19)).bind fun v20 => (m_line v20.1 v20.2.1 v20.2.2)).bind fun v21 => (rCatL v21 (cut corners_5 (some (2 : Int)) (some (4 : Int))))).bind fun v22 => R.ok v22) else
  ((((rIx d_1 (1 : Int))).bind fun v23 => R.ok (decide (v23 = (1 : Int)))).bind fun v30 => if v30 then (((rRepL (cut corners_5 none (some (1 : Int))) (3 : Int))).bind fun v24 => R.ok v24) else
  ((((rIx d_1 (1 : Int))).bind fun v25 => R.ok (decide (v25 = (2 : Int)))).bind fun v29 => if v29 then (R.ok (cut corners_5 none (some (2 : Int)))) else
  ((((rIx d_1 (1 : Int))).bind fun v26 => R.ok (decide (v26 = (3 : Int)))).bind fun v28 => if v28 then (((rCatL (cut corners_5 none (some (3 : Int))) (cut corners_5 none (some (2 : Int))))).bind fun v27 => R.ok v27) else
  (R.ok corners_5))))
abbrev sp_given (P : Program) (w : World) (K : PySem.W.Frag) : Sp := spD (K := K) EX (tysC yCn (tysC (yDic P w (kTup (ksC (kTup (ksC kInt (ks1 kInt))) (ks1 (kTup (ksC kInt (ks1 kInt)))))) yStr) (tys1 yInt))) (qF (K := K) (cLst yCn)) (fun a => m_given a.1 a.2.1 a.2.2)
theorem sc_given : FnScope ["_law_board_here", "_law_table", "_law_cell_here", "_law_d", "_law_corners", "_law_k"] ["_law_board_here", "_law_table", "_law_cell_here"] (defScope s_given) := ⟨rfl, rfl, rfl, by decide +kernel, rfl, by decide +kernel, by decide +kernel⟩
theorem ok_given {P : Program} {w : World} {K : PySem.W.Frag} {mg : Str → Option Value} {base : Heap} {f : Addr} {fd : FuncData} (F : FnP K "_law_given" s_given f fd) (c_draws : Cal P w K mg base CX 1 "_law_draws" ["_law_cell_here", "_law_sizes"] (sp_draws P w K)) (c_line : Cal P w K mg base CX 3 "_law_line" ["_law_table", "_law_p", "_law_q"] (sp_line P w K)) (oc : OC K) (bt : Bt mg) : FnOk P w K mg base CX 4 f fd ["_law_board_here", "_law_table", "_law_cell_here"] (sp_given P w K) := by
  refine fn_ok F sc_given (entC (entC (ent1 rfl))) rfl fun cdv A outer s H E hr a => ?_
  obtain ⟨board_here_p, table_p, cell_here_p⟩ := a
  have sc := sc_given
  exact ⟨_, fun c => .rt (qF (K := K) (cLst yCn) c), DS.cast (m' := m_given board_here_p table_p cell_here_p) (ds_cons (ρ1 := fun (d_1 : (List Int)) => [some (.pl yCn board_here_p), some (.pl (yDic P w (kTup (ksC (kTup (ksC kInt (ks1 kInt))) (ks1 (kTup (ksC kInt (ks1 kInt)))))) yStr) table_p), some (.pl yInt cell_here_p), some (.ow (cLst yInt) d_1), none, none]) (ds_setF (i := 3) sc.nd rfl (.inr rfl) (de_callF c_draws.ok (hr.mono (by decide)) rfl c_draws.mg c_draws.kp c_draws.bd passC (da_cons (de_var (pv 2) rfl) (da_one (DE.fpL (de_catL imm_int (DE.fpL (de_lst (T := yInt) (dl_cons (de_c (T := yInt) (a := (7 : Int)) pe_int (fun _ => rfl)) (dl_cons (de_c (T := yInt) (a := (8 : Int)) pe_int (fun _ => rfl)) (dl_nil))))) (DE.fpL (de_rep imm_int (DE.fpL (de_lst (T := yInt) (dl_cons (de_add (de_nth (de_var (pv 0) rfl) nth_0) (de_c (T := yInt) (a := (1 : Int)) pe_int (fun _ => rfl))) (dl_cons (de_add (de_nth (de_var (pv 0) rfl) (nth_s nth_1)) (de_c (T := yInt) (a := (1 : Int)) pe_int (fun _ => rfl))) (dl_nil))))) (de_c (T := yInt) (a := (6 : Int)) pe_int (fun _ => rfl)))))))) (imm_cLst imm_int) (wkN rfl))) (fun (d_1 : (List Int)) => ds_cons (ρ1 := fun (corners_5 : (List (Int × Int))) => [some (.pl yCn board_here_p), some (.pl (yDic P w (kTup (ksC (kTup (ksC kInt (ks1 kInt))) (ks1 (kTup (ksC kInt (ks1 kInt)))))) yStr) table_p), some (.pl yInt cell_here_p), some (.ow (cLst yInt) d_1), some (.ow (cLst (yTup (tysC yInt (tys1 yInt)))) corners_5), none]) (ds_setLc (i := 4) (own := [("_law_k", 5)]) (ρ' := fun (k_7 : Int) => [some (.pl yCn board_here_p), some (.pl (yDic P w (kTup (ksC (kTup (ksC kInt (ks1 kInt))) (ks1 (kTup (ksC kInt (ks1 kInt)))))) yStr) table_p), some (.pl yInt cell_here_p), some (.ow (cLst yInt) d_1), none, some (.pl yInt k_7)]) (U := (yTup (tysC yInt (tys1 yInt)))) rfl sc.nd rfl rfl rfl (DI.c (di_range1 (by rfl) bt.range (de_ixL (de_ownL (pv 3) rfl) (de_c (T := yInt) (a := (0 : Int)) pe_int (fun _ => rfl))))) (blkOk_by (N := ["_law_board_here", "_law_table", "_law_cell_here", "_law_d", "_law_corners", "_law_k"]) (sc := defScope s_given) (by decide +kernel)) (fun _ _ _ _ _ => dgc (dg_name (pg_name (i := 5) sc.nd rfl (by first | exact .inl rfl | exact .inr rfl))) (by first | rfl | (dsimp only [Blk, Cx.blk, cxOf]; try rfl))) (by decide) (fun _ _ _ _ _ (k_7 : Int) => dtc (dts_nil) (by first | rfl | (dsimp only [Blk, Cx.blk, cxOf]; try rfl))) (fun _ _ _ _ _ (k_7 : Int) => dec (de_tup (dp_cons (DE.bp (de_ixL (de_ownL (pv 3) rfl) (de_add (de_c (T := yInt) (a := (2 : Int)) pe_int (fun _ => rfl)) (de_mul (de_c (T := yInt) (a := (2 : Int)) pe_int (fun _ => rfl)) (de_var (pv 5) rfl)))) imm_int) (dp_one (DE.bp (de_ixL (de_ownL (pv 3) rfl) (de_add (de_c (T := yInt) (a := (3 : Int)) pe_int (fun _ => rfl)) (de_mul (de_c (T := yInt) (a := (2 : Int)) pe_int (fun _ => rfl)) (de_var (pv 5) rfl)))) imm_int)))) (by first | rfl | (dsimp only [Blk, Cx.blk, cxOf]; try rfl)))) (fun (corners_5 : (List (Int × Int))) => ds_ift (DW.dt (dw_and (DQ.dt (dq_eqI (de_ixL (de_ownL (pv 3) rfl) (de_c (T := yInt) (a := (1 : Int)) pe_int (fun _ => rfl))) (de_c (T := yInt) (a := (0 : Int)) pe_int (fun _ => rfl)))) (dw_and1 (DQ.dt (dq_gt (de_len len_lst rfl bt.len (de_ownL (pv 4) rfl)) (de_c (T := yInt) (a := (1 : Int)) pe_int (fun _ => rfl))))))) (ds_one (ds_retF (f := (fun a => a)) (de_catL (imm_tup (imm_C imm_int (imm_1 imm_int))) (DE.fpL (de_callF c_line.ok (hr.mono (by decide)) rfl c_line.mg c_line.kp c_line.bd passC (da_cons (de_var (pv 1) rfl) (da_cons (de_ixL (de_ownL (pv 4) rfl) (de_c (T := yInt) (a := (0 : Int)) pe_int (fun _ => rfl))) (da_one (de_ixL (de_ownL (pv 4) rfl) (de_c (T := yInt) (a := (1 : Int)) pe_int (fun _ => rfl)))))) (imm_cLst (imm_tup (imm_C imm_int (imm_1 imm_int)))) (wkN rfl))) (DE.fpL (de_sliceL (imm_tup (imm_C imm_int (imm_1 imm_int))) (de_ownL (pv 4) rfl) (do_some (de_c (T := yInt) (a := (2 : Int)) pe_int (fun _ => rfl))) (do_some (de_c (T := yInt) (a := (4 : Int)) pe_int (fun _ => rfl)))))) (fun _ => rfl))) (fun _ => rfl) (ds_ift (DQ.dt (dq_eqI (de_ixL (de_ownL (pv 3) rfl) (de_c (T := yInt) (a := (1 : Int)) pe_int (fun _ => rfl))) (de_c (T := yInt) (a := (1 : Int)) pe_int (fun _ => rfl)))) (ds_one (ds_retF (f := (fun a => a)) (de_rep (imm_tup (imm_C imm_int (imm_1 imm_int))) (DE.fpL (de_sliceL (imm_tup (imm_C imm_int (imm_1 imm_int))) (de_ownL (pv 4) rfl) (do_none) (do_some (de_c (T := yInt) (a := (1 : Int)) pe_int (fun _ => rfl))))) (de_c (T := yInt) (a := (3 : Int)) pe_int (fun _ => rfl))) (fun _ => rfl))) (fun _ => rfl) (ds_ift (DQ.dt (dq_eqI (de_ixL (de_ownL (pv 3) rfl) (de_c (T := yInt) (a := (1 : Int)) pe_int (fun _ => rfl))) (de_c (T := yInt) (a := (2 : Int)) pe_int (fun _ => rfl)))) (ds_one (ds_retF (f := (fun a => a)) (de_sliceL (imm_tup (imm_C imm_int (imm_1 imm_int))) (de_ownL (pv 4) rfl) (do_none) (do_some (de_c (T := yInt) (a := (2 : Int)) pe_int (fun _ => rfl)))) (fun _ => rfl))) (fun _ => rfl) (ds_ift (DQ.dt (dq_eqI (de_ixL (de_ownL (pv 3) rfl) (de_c (T := yInt) (a := (1 : Int)) pe_int (fun _ => rfl))) (de_c (T := yInt) (a := (3 : Int)) pe_int (fun _ => rfl)))) (ds_one (ds_retF (f := (fun a => a)) (de_catL (imm_tup (imm_C imm_int (imm_1 imm_int))) (DE.fpL (de_sliceL (imm_tup (imm_C imm_int (imm_1 imm_int))) (de_ownL (pv 4) rfl) (do_none) (do_some (de_c (T := yInt) (a := (3 : Int)) pe_int (fun _ => rfl))))) (DE.fpL (de_sliceL (imm_tup (imm_C imm_int (imm_1 imm_int))) (de_ownL (pv 4) rfl) (do_none) (do_some (de_c (T := yInt) (a := (2 : Int)) pe_int (fun _ => rfl)))))) (fun _ => rfl))) (fun _ => rfl) (ds_one (ds_retO (c := corners_5) (pv 4) rfl rfl)))))))) (by unfold m_given; simp only [bo, isIn_dec, andok, orok]), fun _ => .inl rfl⟩
def m_closure (table_p : (List (((Int × Int) × (Int × Int)) × PySem.Str))) (corners_p : (List (Int × Int))) : R Er (List (Int × Int)) := (R.ok ([] : List (Int × Int))).bind fun (held_1 : (List (Int × Int))) =>
  (R.ok corners_p).bind fun (waiting_2 : (List (Int × Int))) =>
  (((rRng 0 (2000 : Int))).bind fun v17 => forB (fun (k_3 : Int) (s4 : ((List (Int × Int)) × (List (Int × Int)))) => if (decide ((List.length s4.2 : Int) = (0 : Int))) then (R.ok (.inr (s4.1, s4.2))) else
  (((rPopV s4.2)).bind fun (corner_5 : (Int × Int)) =>
  if (!memB corner_5 s4.1) then (((rApp s4.1 corner_5)).bind fun (c7 : (Int × Int)) =>
  (forS (fun (other_8 : (Int × Int)) (s9 : (List (Int × Int))) => (((m_line table_p corner_5 other_8)).bind fun v14 => forS (fun (spot_10 : (Int × Int)) (s11 : (List (Int × Int))) => if ((!memB spot_10 (s4.1 ++ [c7])) && (!memB spot_10 s11)) then (((rApp s11 spot_10)).bind fun (c13 : (Int × Int)) =>
  R.ok (s11 ++ [c13])) else
  (R.ok s11)) v14 s9).bind fun (s15 : (List (Int × Int))) =>
  R.ok s15) (s4.1 ++ [c7]) (List.dropLast s4.2)).bind fun (s16 : (List (Int × Int))) =>
  R.ok (.inl ((s4.1 ++ [c7]), s16))) else
  (R.ok (.inl (s4.1, (List.dropLast s4.2)))))) v17 (held_1, waiting_2)).bind fun (s18 : ((List (Int × Int)) × (List (Int × Int)))) =>
  R.ok (sortD (fun (a : (Int × Int)) => (PyData.tuple [(PyData.int a.1), (PyData.int a.2)])) s18.1)
abbrev sp_closure (P : Program) (w : World) (K : PySem.W.Frag) : Sp := spD (K := K) EX (tysC (yDic P w (kTup (ksC (kTup (ksC kInt (ks1 kInt))) (ks1 (kTup (ksC kInt (ks1 kInt)))))) yStr) (tys1 (yLst yCn))) (qF (K := K) (cLst yCn)) (fun a => m_closure a.1 a.2)
theorem sc_closure : FnScope ["_law_table", "_law_corners", "_law_held", "_law_waiting", "_law_k", "_law_corner", "_law_other", "_law_spot"] ["_law_table", "_law_corners"] (defScope s_closure) := ⟨rfl, rfl, rfl, by decide +kernel, rfl, by decide +kernel, by decide +kernel⟩
theorem ok_closure {P : Program} {w : World} {K : PySem.W.Frag} {mg : Str → Option Value} {base : Heap} {f : Addr} {fd : FuncData} (F : FnP K "_law_closure" s_closure f fd) (c_line : Cal P w K mg base CX 3 "_law_line" ["_law_table", "_law_p", "_law_q"] (sp_line P w K)) (oc : OC K) (bt : Bt mg) : FnOk P w K mg base CX 4 f fd ["_law_table", "_law_corners"] (sp_closure P w K) := by
  refine fn_ok F sc_closure (entC (ent1 rfl)) rfl fun cdv A outer s H E hr a => ?_
  obtain ⟨table_p, corners_p⟩ := a
  have sc := sc_closure
  exact ⟨_, fun c => .rt (qF (K := K) (cLst yCn) c), DS.cast (m' := m_closure table_p corners_p) (ds_cons (ρ1 := fun (held_1 : (List (Int × Int))) => [some (.pl (yDic P w (kTup (ksC (kTup (ksC kInt (ks1 kInt))) (ks1 (kTup (ksC kInt (ks1 kInt)))))) yStr) table_p), some (.pl (yLst yCn) corners_p), some (.ow (cLst yCn) held_1), none, none, none, none, none]) (ds_setF (i := 2) sc.nd rfl (.inl rfl) (de_lst (T := yCn) (dl_nil))) (fun (held_1 : (List (Int × Int))) => ds_cons (ρ1 := fun (waiting_2 : (List (Int × Int))) => [some (.pl (yDic P w (kTup (ksC (kTup (ksC kInt (ks1 kInt))) (ks1 (kTup (ksC kInt (ks1 kInt)))))) yStr) table_p), some (.pl (yLst yCn) corners_p), some (.ow (cLst yCn) held_1), some (.ow (cLst yCn) waiting_2), none, none, none, none]) (ds_setF (i := 3) sc.nd rfl (.inl rfl) (de_list1 sq_lst (imm_tup (imm_C imm_int (imm_1 imm_int))) rfl bt.list (de_var (pv 1) rfl))) (fun (waiting_2 : (List (Int × Int))) => ds_cons (ρ1 := fun (s18 : ((List (Int × Int)) × (List (Int × Int)))) => [some (.pl (yDic P w (kTup (ksC (kTup (ksC kInt (ks1 kInt))) (ks1 (kTup (ksC kInt (ks1 kInt)))))) yStr) table_p), some (.pl (yLst yCn) corners_p), some (.ow (cLst yCn) s18.1), some (.ow (cLst yCn) s18.2), none, none, none, none]) (ds_forB (eH := fun (s4 : ((List (Int × Int)) × (List (Int × Int)))) => [some (.pl (yDic P w (kTup (ksC (kTup (ksC kInt (ks1 kInt))) (ks1 (kTup (ksC kInt (ks1 kInt)))))) yStr) table_p), some (.pl (yLst yCn) corners_p), some (.ow (cLst yCn) s4.1), some (.ow (cLst yCn) s4.2), none, none, none, none]) (eB := fun (s4 : ((List (Int × Int)) × (List (Int × Int)))) (k_3 : Int) => [some (.pl (yDic P w (kTup (ksC (kTup (ksC kInt (ks1 kInt))) (ks1 (kTup (ksC kInt (ks1 kInt)))))) yStr) table_p), some (.pl (yLst yCn) corners_p), some (.ow (cLst yCn) s4.1), some (.ow (cLst yCn) s4.2), some (.pl yInt k_3), none, none, none]) (a0 := (held_1, waiting_2)) (passes_of rfl) rfl (di_range1 (by rfl) bt.range (de_c (T := yInt) (a := (2000 : Int)) pe_int (fun _ => rfl))) (.keep (.keep (.keep (.keep (.keep (.keep (.keep (.keep .nil)))))))) (fun (s4 : ((List (Int × Int)) × (List (Int × Int)))) => dg_name (pg_name (i := 4) sc.nd rfl (.inl rfl))) (fun (s4 : ((List (Int × Int)) × (List (Int × Int)))) (k_3 : Int) => ds_ift (DQ.dt (dq_eqI (de_len len_lst rfl bt.len (de_ownL (pv 3) rfl)) (de_c (T := yInt) (a := (0 : Int)) pe_int (fun _ => rfl)))) (ds_one (ds_break (c := (.inr (s4.1, s4.2))) rfl (.keep (.keep (.keep (.keep (.drop (.keep (.keep (.keep .nil)))))))))) (fun x => by cases x <;> rfl) (ds_cons (ρ1 := fun (corner_5 : (Int × Int)) => [some (.pl (yDic P w (kTup (ksC (kTup (ksC kInt (ks1 kInt))) (ks1 (kTup (ksC kInt (ks1 kInt)))))) yStr) table_p), some (.pl (yLst yCn) corners_p), some (.ow (cLst yCn) s4.1), some (.ow (cLst yCn) (List.dropLast s4.2)), some (.pl yInt k_3), some (.pl yCn corner_5), none, none]) (ds_popSet (i := 3) (j := 5) sc.nd rfl (.inl rfl) (pv 3) rfl) (fun (corner_5 : (Int × Int)) => ds_one (ds_if1 (DQ.dt (dq_notInL (q_tup (q_C q_int (q_1 q_int))) (u65 hr) (lo rfl) (de_var (pv 5) rfl) (de_ownL (pv 2) rfl))) (ds_cons (ρ1 := fun (c7 : (Int × Int)) => [some (.pl (yDic P w (kTup (ksC (kTup (ksC kInt (ks1 kInt))) (ks1 (kTup (ksC kInt (ks1 kInt)))))) yStr) table_p), some (.pl (yLst yCn) corners_p), some (.ow (cLst yCn) (s4.1 ++ [c7])), some (.ow (cLst yCn) (List.dropLast s4.2)), some (.pl yInt k_3), some (.pl yCn corner_5), none, none]) (ds_append (pv 2) rfl (de_var (pv 5) rfl)) (fun (c7 : (Int × Int)) => ds_cons (ρ1 := fun (s16 : (List (Int × Int))) => [some (.pl (yDic P w (kTup (ksC (kTup (ksC kInt (ks1 kInt))) (ks1 (kTup (ksC kInt (ks1 kInt)))))) yStr) table_p), some (.pl (yLst yCn) corners_p), some (.ow (cLst yCn) (s4.1 ++ [c7])), some (.ow (cLst yCn) s16), some (.pl yInt k_3), some (.pl yCn corner_5), none, none]) (ds_forS (eH := fun (s9 : (List (Int × Int))) => [some (.pl (yDic P w (kTup (ksC (kTup (ksC kInt (ks1 kInt))) (ks1 (kTup (ksC kInt (ks1 kInt)))))) yStr) table_p), some (.pl (yLst yCn) corners_p), some (.ow (cLst yCn) (s4.1 ++ [c7])), some (.ow (cLst yCn) s9), some (.pl yInt k_3), some (.pl yCn corner_5), none, none]) (eB := fun (s9 : (List (Int × Int))) (other_8 : (Int × Int)) => [some (.pl (yDic P w (kTup (ksC (kTup (ksC kInt (ks1 kInt))) (ks1 (kTup (ksC kInt (ks1 kInt)))))) yStr) table_p), some (.pl (yLst yCn) corners_p), some (.ow (cLst yCn) (s4.1 ++ [c7])), some (.ow (cLst yCn) s9), some (.pl yInt k_3), some (.pl yCn corner_5), some (.pl yCn other_8), none]) (a0 := (List.dropLast s4.2)) (passes_of rfl) rfl (di_list (DE.fpL (de_list1 sq_lst (imm_tup (imm_C imm_int (imm_1 imm_int))) rfl bt.list (de_ownL (pv 2) rfl)))) (.keep (.keep (.keep (.keep (.keep (.keep (.keep (.keep .nil)))))))) (fun (s9 : (List (Int × Int))) => dg_name (pg_name (i := 6) sc.nd rfl (.inl rfl))) (fun (s9 : (List (Int × Int))) (other_8 : (Int × Int)) => ds_cons (ρ1 := fun (s15 : (List (Int × Int))) => [some (.pl (yDic P w (kTup (ksC (kTup (ksC kInt (ks1 kInt))) (ks1 (kTup (ksC kInt (ks1 kInt)))))) yStr) table_p), some (.pl (yLst yCn) corners_p), some (.ow (cLst yCn) (s4.1 ++ [c7])), some (.ow (cLst yCn) s15), some (.pl yInt k_3), some (.pl yCn corner_5), some (.pl yCn other_8), none]) (ds_forS (eH := fun (s11 : (List (Int × Int))) => [some (.pl (yDic P w (kTup (ksC (kTup (ksC kInt (ks1 kInt))) (ks1 (kTup (ksC kInt (ks1 kInt)))))) yStr) table_p), some (.pl (yLst yCn) corners_p), some (.ow (cLst yCn) (s4.1 ++ [c7])), some (.ow (cLst yCn) s11), some (.pl yInt k_3), some (.pl yCn corner_5), some (.pl yCn other_8), none]) (eB := fun (s11 : (List (Int × Int))) (spot_10 : (Int × Int)) => [some (.pl (yDic P w (kTup (ksC (kTup (ksC kInt (ks1 kInt))) (ks1 (kTup (ksC kInt (ks1 kInt)))))) yStr) table_p), some (.pl (yLst yCn) corners_p), some (.ow (cLst yCn) (s4.1 ++ [c7])), some (.ow (cLst yCn) s11), some (.pl yInt k_3), some (.pl yCn corner_5), some (.pl yCn other_8), some (.pl yCn spot_10)]) (a0 := s9) (passes_of rfl) rfl (di_list (DE.fpL (de_callF c_line.ok (hr.mono (by decide)) rfl c_line.mg c_line.kp c_line.bd passC (da_cons (de_var (pv 0) rfl) (da_cons (de_var (pv 5) rfl) (da_one (de_var (pv 6) rfl)))) (imm_cLst (imm_tup (imm_C imm_int (imm_1 imm_int)))) (wkN rfl)))) (.keep (.keep (.keep (.keep (.keep (.keep (.keep (.keep .nil)))))))) (fun (s11 : (List (Int × Int))) => dg_name (pg_name (i := 7) sc.nd rfl (.inl rfl))) (fun (s11 : (List (Int × Int))) (spot_10 : (Int × Int)) => ds_one (ds_if1 (DW.dt (dw_and (DQ.dt (dq_notInL (q_tup (q_C q_int (q_1 q_int))) (u65 hr) (lo rfl) (de_var (pv 7) rfl) (de_ownL (pv 2) rfl))) (dw_and1 (DQ.dt (dq_notInL (q_tup (q_C q_int (q_1 q_int))) (u65 hr) (lo rfl) (de_var (pv 7) rfl) (de_ownL (pv 3) rfl)))))) (ds_cons (ρ1 := fun (c13 : (Int × Int)) => [some (.pl (yDic P w (kTup (ksC (kTup (ksC kInt (ks1 kInt))) (ks1 (kTup (ksC kInt (ks1 kInt)))))) yStr) table_p), some (.pl (yLst yCn) corners_p), some (.ow (cLst yCn) (s4.1 ++ [c7])), some (.ow (cLst yCn) (s11 ++ [c13])), some (.pl yInt k_3), some (.pl yCn corner_5), some (.pl yCn other_8), some (.pl yCn spot_10)]) (ds_append (pv 3) rfl (de_var (pv 7) rfl)) (fun (c13 : (Int × Int)) => ds_nil (c := (s11 ++ [c13])) (by first | exact .inl rfl | exact .inr rfl) (.keep (.keep (.keep (.keep (.keep (.keep (.keep (.drop .nil)))))))))) (ds_nil (c := s11) (by first | exact .inl rfl | exact .inr rfl) (.keep (.keep (.keep (.keep (.keep (.keep (.keep (.drop .nil)))))))))))) (fun (s15 : (List (Int × Int))) => ds_nil (c := s15) (by first | exact .inl rfl | exact .inr rfl) (.keep (.keep (.keep (.keep (.keep (.keep (.drop (.keep .nil))))))))))) (fun (s16 : (List (Int × Int))) => ds_nil (c := (.inl ((s4.1 ++ [c7]), s16))) (by first | exact .inl rfl | exact .inr rfl) (.keep (.keep (.keep (.keep (.drop (.drop (.keep (.keep .nil))))))))))) (ds_nil (c := (.inl (s4.1, (List.dropLast s4.2)))) (by first | exact .inl rfl | exact .inr rfl) (.keep (.keep (.keep (.keep (.drop (.drop (.keep (.keep .nil)))))))))))))) (fun (s18 : ((List (Int × Int)) × (List (Int × Int)))) => ds_one (ds_retF (f := (fun a => a)) (de_sortedD (P := (pTup (psC pInt (ps1 pInt)))) (py := (fun (a : (Int × Int)) => (PyData.tuple [(PyData.int a.1), (PyData.int a.2)]))) (fun _ => rfl) (fun _ _ => rfl) (fun _ => ⟨_, _, rfl⟩) (imm_tup (imm_C imm_int (imm_1 imm_int))) (u64 hr) rfl bt.sorted (de_ownL (pv 2) rfl)) (fun _ => rfl)))))) (by unfold m_closure; simp only [bo, isIn_dec, andok, orok]), fun _ => .inl rfl⟩
def m_on_board (board_p : (Int × Int)) (corner_p : (Int × Int)) : R Er Bool := (((if decide ((0 : Int) ≤ corner_p.1) then (R.ok (decide (corner_p.1 ≤ board_p.1))) else R.ok false)).bind fun v1 => (if v1 then (if decide ((0 : Int) ≤ corner_p.2) then (R.ok (decide (corner_p.2 ≤ board_p.2))) else R.ok false) else R.ok false)).bind fun v2 => R.ok v2
abbrev sp_on_board (P : Program) (w : World) (K : PySem.W.Frag) : Sp := spD (K := K) EX (tysC yCn (tys1 yCn)) (qP (K := K) yBl) (fun a => m_on_board a.1 a.2)
theorem sc_on_board : FnScope ["board", "corner"] ["board", "corner"] (defScope s_on_board) := ⟨rfl, rfl, rfl, by decide +kernel, rfl, by decide +kernel, by decide +kernel⟩
theorem ok_on_board {P : Program} {w : World} {K : PySem.W.Frag} {mg : Str → Option Value} {base : Heap} {f : Addr} {fd : FuncData} (F : FnP K "on_board" s_on_board f fd) (oc : OC K) (bt : Bt mg) : FnOk P w K mg base CX 1 f fd ["board", "corner"] (sp_on_board P w K) := by
  refine fn_ok F sc_on_board (entC (ent1 rfl)) rfl fun cdv A outer s H E hr a => ?_
  obtain ⟨board_p, corner_p⟩ := a
  have sc := sc_on_board
  exact ⟨_, fun c => .rt (qP (K := K) yBl c), DS.cast (m' := m_on_board board_p corner_p) (ds_one (ds_ret (f := (fun a => a)) (de_and (DQ.de (dq_chain op_le op_le (de_c (T := yInt) (a := (0 : Int)) pe_int (fun _ => rfl)) (de_nth (de_var (pv 1) rfl) nth_0) (de_nth (de_var (pv 0) rfl) nth_0))) (de_one (DQ.de (dq_chain op_le op_le (de_c (T := yInt) (a := (0 : Int)) pe_int (fun _ => rfl)) (de_nth (de_var (pv 1) rfl) (nth_s nth_1)) (de_nth (de_var (pv 0) rfl) (nth_s nth_1)))))) (fun _ => rfl))) (by unfold m_on_board; simp only [bo, isIn_dec, andok, orok]), fun _ => .inl rfl⟩
def m_Plane_letter (self_p : ((((Unit × (Int × Int)) × PySem.Str) × PySem.Str) × (List (((Int × Int) × (Int × Int)) × PySem.Str)))) (p_p : (Int × Int)) (q_p : (Int × Int)) : R Er PySem.Str := ((m_first_letter self_p.2 p_p q_p)).bind fun v1 => R.ok v1
abbrev sp_Plane_letter (P : Program) (w : World) (K : PySem.W.Frag) : Sp := spD (K := K) EX (tysC (yObj "Plane" ["board", "rising", "falling", "letters"] (tysL (tysL (tysL (tysL tys0 yCn) yStr) yStr) (yDic P w (kTup (ksC (kTup (ksC kInt (ks1 kInt))) (ks1 (kTup (ksC kInt (ks1 kInt)))))) yStr))) (tysC yCn (tys1 yCn))) (qP (K := K) yStr) (fun a => m_Plane_letter a.1 a.2.1 a.2.2)
theorem sc_Plane_letter : FnScope ["self", "p", "q"] ["self", "p", "q"] (defScope s_Plane_letter) := ⟨rfl, rfl, rfl, by decide +kernel, rfl, by decide +kernel, by decide +kernel⟩
theorem ok_Plane_letter {P : Program} {w : World} {K : PySem.W.Frag} {mg : Str → Option Value} {base : Heap} {f : Addr} {fd : FuncData} (F : FnQ K "letter" "Plane.letter" s_Plane_letter f fd) (c_first_letter : Cal P w K mg base CX 1 "first_letter" ["table", "p", "q"] (sp_first_letter P w K)) (oc : OC K) (bt : Bt mg) : FnOk P w K mg base CX 2 f fd ["self", "p", "q"] (sp_Plane_letter P w K) := by
  refine fn_ok F sc_Plane_letter (entC (entC (ent1 rfl))) rfl fun cdv A outer s H E hr a => ?_
  obtain ⟨self_p, p_p, q_p⟩ := a
  have sc := sc_Plane_letter
  exact ⟨_, fun c => .rt (qP (K := K) yStr c), DS.cast (m' := m_Plane_letter self_p p_p q_p) (ds_one (ds_ret (f := (fun a => a)) (de_call c_first_letter.ok (hr.mono (by decide)) rfl c_first_letter.mg c_first_letter.kp c_first_letter.bd passC (da_cons (de_fld (i := 3) (T := (yDic P w (kTup (ksC (kTup (ksC kInt (ks1 kInt))) (ks1 (kTup (ksC kInt (ks1 kInt)))))) yStr)) (g := fun (a : ((((Unit × (Int × Int)) × PySem.Str) × PySem.Str) × (List (((Int × Int) × (Int × Int)) × PySem.Str)))) => a.2) oc.c_Plane oc.n_Plane_letters (by decide +kernel) rfl (pl_last rfl) (de_var (pv 0) rfl)) (da_cons (de_var (pv 1) rfl) (da_one (de_var (pv 2) rfl)))) imm_str (wkN rfl)) (fun _ => rfl))) (by unfold m_Plane_letter; simp only [bo, isIn_dec, andok, orok]), fun _ => .inl rfl⟩
def m_Plane_walked (self_p : ((((Unit × (Int × Int)) × PySem.Str) × PySem.Str) × (List (((Int × Int) × (Int × Int)) × PySem.Str)))) (p_p : (Int × Int)) (q_p : (Int × Int)) : R Er (List (Int × Int)) := (R.ok ([p_p] : List (Int × Int))).bind fun (row_1 : (List (Int × Int))) =>
  (whileS (fun (s2 : (List (Int × Int))) => ((rIx s2 (-(1 : Int)))).bind fun v3 => R.ok (!decide (v3 = q_p))) (fun (s2 : (List (Int × Int))) => (((((rIx s2 (-(1 : Int)))).bind fun v7 => ((((rIx s2 (-(1 : Int)))).bind fun v5 => R.ok (v5, q_p)).bind fun v6 => (m_Plane_letter self_p v6.1 v6.2)).bind fun v8 => R.ok (v7, v8)).bind fun v9 => (m_moved_own v9.1 v9.2)).bind fun v11 => (rApp s2 v11)).bind fun (c10 : (Int × Int)) =>
  R.ok (s2 ++ [c10])) fuel row_1).bind fun (s12 : (List (Int × Int))) =>
  R.ok s12
abbrev sp_Plane_walked (P : Program) (w : World) (K : PySem.W.Frag) : Sp := spD (K := K) EX (tysC (yObj "Plane" ["board", "rising", "falling", "letters"] (tysL (tysL (tysL (tysL tys0 yCn) yStr) yStr) (yDic P w (kTup (ksC (kTup (ksC kInt (ks1 kInt))) (ks1 (kTup (ksC kInt (ks1 kInt)))))) yStr))) (tysC yCn (tys1 yCn))) (qF (K := K) (cLst yCn)) (fun a => m_Plane_walked a.1 a.2.1 a.2.2)
theorem sc_Plane_walked : FnScope ["self", "p", "q", "row"] ["self", "p", "q"] (defScope s_Plane_walked) := ⟨rfl, rfl, rfl, by decide +kernel, rfl, by decide +kernel, by decide +kernel⟩
theorem ok_Plane_walked {P : Program} {w : World} {K : PySem.W.Frag} {mg : Str → Option Value} {base : Heap} {f : Addr} {fd : FuncData} (F : FnQ K "walked" "Plane.walked" s_Plane_walked f fd) (c_Plane_letter : Met P w K mg base CX 2 "Plane" "letter" ["self", "p", "q"] (sp_Plane_letter P w K)) (c_moved_own : Cal P w K mg base CX 1 "moved" ["corner", "letter"] (sp_moved_own P w K)) (oc : OC K) (bt : Bt mg) : FnOk P w K mg base CX 3 f fd ["self", "p", "q"] (sp_Plane_walked P w K) := by
  refine fn_ok F sc_Plane_walked (entC (entC (ent1 rfl))) rfl fun cdv A outer s H E hr a => ?_
  obtain ⟨self_p, p_p, q_p⟩ := a
  have sc := sc_Plane_walked
  exact ⟨_, fun c => .rt (qF (K := K) (cLst yCn) c), DS.cast (m' := m_Plane_walked self_p p_p q_p) (ds_cons (ρ1 := fun (row_1 : (List (Int × Int))) => [some (.pl (yObj "Plane" ["board", "rising", "falling", "letters"] (tysL (tysL (tysL (tysL tys0 yCn) yStr) yStr) (yDic P w (kTup (ksC (kTup (ksC kInt (ks1 kInt))) (ks1 (kTup (ksC kInt (ks1 kInt)))))) yStr))) self_p), some (.pl yCn p_p), some (.pl yCn q_p), some (.ow (cLst yCn) row_1)]) (ds_setF (i := 3) sc.nd rfl (.inl rfl) (de_lst (T := yCn) (dl_cons (de_var (pv 1) rfl) (dl_nil)))) (fun (row_1 : (List (Int × Int))) => ds_cons (ρ1 := fun (s12 : (List (Int × Int))) => [some (.pl (yObj "Plane" ["board", "rising", "falling", "letters"] (tysL (tysL (tysL (tysL tys0 yCn) yStr) yStr) (yDic P w (kTup (ksC (kTup (ksC kInt (ks1 kInt))) (ks1 (kTup (ksC kInt (ks1 kInt)))))) yStr))) self_p), some (.pl yCn p_p), some (.pl yCn q_p), some (.ow (cLst yCn) s12)]) (ds_whileS (eH := fun (s2 : (List (Int × Int))) => [some (.pl (yObj "Plane" ["board", "rising", "falling", "letters"] (tysL (tysL (tysL (tysL tys0 yCn) yStr) yStr) (yDic P w (kTup (ksC (kTup (ksC kInt (ks1 kInt))) (ks1 (kTup (ksC kInt (ks1 kInt)))))) yStr))) self_p), some (.pl yCn p_p), some (.pl yCn q_p), some (.ow (cLst yCn) s2)]) (a0 := row_1) fuel (passes_of rfl) (.keep (.keep (.keep (.keep .nil)))) (fun (s2 : (List (Int × Int))) => DQ.dt (dq_ne (q_tup (q_C q_int (q_1 q_int))) (u64 hr) (lo rfl) (lo rfl) (de_ixL (de_ownL (pv 3) rfl) (de_neg (de_c (T := yInt) (a := (1 : Int)) pe_int (fun _ => rfl)))) (de_var (pv 2) rfl))) (fun (s2 : (List (Int × Int))) => ds_cons (ρ1 := fun (c10 : (Int × Int)) => [some (.pl (yObj "Plane" ["board", "rising", "falling", "letters"] (tysL (tysL (tysL (tysL tys0 yCn) yStr) yStr) (yDic P w (kTup (ksC (kTup (ksC kInt (ks1 kInt))) (ks1 (kTup (ksC kInt (ks1 kInt)))))) yStr))) self_p), some (.pl yCn p_p), some (.pl yCn q_p), some (.ow (cLst yCn) (s2 ++ [c10]))]) (ds_append (pv 3) rfl (de_call c_moved_own.ok (hr.mono (by decide)) rfl c_moved_own.mg c_moved_own.kp c_moved_own.bd passC (da_cons (de_ixL (de_ownL (pv 3) rfl) (de_neg (de_c (T := yInt) (a := (1 : Int)) pe_int (fun _ => rfl)))) (da_one (de_mB c_Plane_letter (hr.mono (by decide)) passC (by decide +kernel) (de_var (pv 0) rfl) (da_cons (de_ixL (de_ownL (pv 3) rfl) (de_neg (de_c (T := yInt) (a := (1 : Int)) pe_int (fun _ => rfl)))) (da_one (de_var (pv 2) rfl))) imm_str (wkN rfl)))) (imm_tup (imm_C imm_int (imm_1 imm_int))) (wkN rfl))) (fun (c10 : (Int × Int)) => ds_nil (c := (s2 ++ [c10])) (by first | exact .inl rfl | exact .inr rfl) (.keep (.keep (.keep (.keep .nil))))))) (fun (s12 : (List (Int × Int))) => ds_one (ds_retO (c := s12) (pv 3) rfl rfl)))) (by unfold m_Plane_walked; simp only [bo, isIn_dec, andok, orok]), fun _ => .inl rfl⟩
def m_Plane_line (self_p : ((((Unit × (Int × Int)) × PySem.Str) × PySem.Str) × (List (((Int × Int) × (Int × Int)) × PySem.Str)))) (p_p : (Int × Int)) (q_p : (Int × Int)) : R Er (List (Int × Int)) := (forS (fun (corner_1 : (Int × Int)) (s2 : Unit) => (((m_on_board self_p.1.1.1.2 corner_1)).bind fun v3 => R.ok (!v3)).bind fun v4 => if v4 then R.bad else
  (R.ok ())) ([p_p, q_p] : List (Int × Int)) ()).bind fun (s5 : Unit) =>
  if (ltC q_p p_p) then ((((m_Plane_walked self_p q_p p_p)).bind fun v6 => R.ok (List.reverse v6)).bind fun v7 => R.ok v7) else
  (((m_Plane_walked self_p p_p q_p)).bind fun v8 => R.ok v8)
abbrev sp_Plane_line (P : Program) (w : World) (K : PySem.W.Frag) : Sp := spD (K := K) EX (tysC (yObj "Plane" ["board", "rising", "falling", "letters"] (tysL (tysL (tysL (tysL tys0 yCn) yStr) yStr) (yDic P w (kTup (ksC (kTup (ksC kInt (ks1 kInt))) (ks1 (kTup (ksC kInt (ks1 kInt)))))) yStr))) (tysC yCn (tys1 yCn))) (qF (K := K) (cLst yCn)) (fun a => m_Plane_line a.1 a.2.1 a.2.2)
theorem sc_Plane_line : FnScope ["self", "p", "q", "corner"] ["self", "p", "q"] (defScope s_Plane_line) := ⟨rfl, rfl, rfl, by decide +kernel, rfl, by decide +kernel, by decide +kernel⟩
theorem ok_Plane_line {P : Program} {w : World} {K : PySem.W.Frag} {mg : Str → Option Value} {base : Heap} {f : Addr} {fd : FuncData} (F : FnQ K "line" "Plane.line" s_Plane_line f fd) (c_on_board : Cal P w K mg base CX 1 "on_board" ["board", "corner"] (sp_on_board P w K)) (c_Plane_walked : Met P w K mg base CX 3 "Plane" "walked" ["self", "p", "q"] (sp_Plane_walked P w K)) (oc : OC K) (bt : Bt mg) : FnOk P w K mg base CX 4 f fd ["self", "p", "q"] (sp_Plane_line P w K) := by
  refine fn_ok F sc_Plane_line (entC (entC (ent1 rfl))) rfl fun cdv A outer s H E hr a => ?_
  obtain ⟨self_p, p_p, q_p⟩ := a
  have sc := sc_Plane_line
  exact ⟨_, fun c => .rt (qF (K := K) (cLst yCn) c), DS.cast (m' := m_Plane_line self_p p_p q_p) (ds_cons (ρ1 := fun (s5 : Unit) => [some (.pl (yObj "Plane" ["board", "rising", "falling", "letters"] (tysL (tysL (tysL (tysL tys0 yCn) yStr) yStr) (yDic P w (kTup (ksC (kTup (ksC kInt (ks1 kInt))) (ks1 (kTup (ksC kInt (ks1 kInt)))))) yStr))) self_p), some (.pl yCn p_p), some (.pl yCn q_p), none]) (ds_forS (eH := fun (s2 : Unit) => [some (.pl (yObj "Plane" ["board", "rising", "falling", "letters"] (tysL (tysL (tysL (tysL tys0 yCn) yStr) yStr) (yDic P w (kTup (ksC (kTup (ksC kInt (ks1 kInt))) (ks1 (kTup (ksC kInt (ks1 kInt)))))) yStr))) self_p), some (.pl yCn p_p), some (.pl yCn q_p), none]) (eB := fun (s2 : Unit) (corner_1 : (Int × Int)) => [some (.pl (yObj "Plane" ["board", "rising", "falling", "letters"] (tysL (tysL (tysL (tysL tys0 yCn) yStr) yStr) (yDic P w (kTup (ksC (kTup (ksC kInt (ks1 kInt))) (ks1 (kTup (ksC kInt (ks1 kInt)))))) yStr))) self_p), some (.pl yCn p_p), some (.pl yCn q_p), some (.pl yCn corner_1)]) (a0 := ()) (passes_of rfl) rfl (di_list (DE.fpL (de_lst (T := yCn) (dl_cons (de_var (pv 1) rfl) (dl_cons (de_var (pv 2) rfl) (dl_nil)))))) (.keep (.keep (.keep (.keep .nil)))) (fun (s2 : Unit) => dg_name (pg_name (i := 3) sc.nd rfl (.inl rfl))) (fun (s2 : Unit) (corner_1 : (Int × Int)) => ds_one (ds_if1 (dt_not (dt_val (de_call c_on_board.ok (hr.mono (by decide)) rfl c_on_board.mg c_on_board.kp c_on_board.bd passC (da_cons (de_fld (i := 0) (T := yCn) (g := fun (a : ((((Unit × (Int × Int)) × PySem.Str) × PySem.Str) × (List (((Int × Int) × (Int × Int)) × PySem.Str)))) => a.1.1.1.2) oc.c_Plane oc.n_Plane_board (by decide +kernel) rfl (pl_init (Nat.le_of_ble_eq_true rfl) (pl_init (Nat.le_of_ble_eq_true rfl) (pl_init (Nat.le_of_ble_eq_true rfl) (pl_last rfl)))) (de_var (pv 0) rfl)) (da_one (de_var (pv 3) rfl))) imm_bl (wkN rfl)))) (ds_bad) (ds_nil (c := ()) (by first | exact .inl rfl | exact .inr rfl) (.keep (.keep (.keep (.drop .nil)))))))) (fun (s5 : Unit) => ds_ift (DQ.dt (dq_ltC (u0 hr) (de_var (pv 2) rfl) (de_var (pv 1) rfl))) (ds_one (ds_retF (f := (fun a => a)) (de_rev (imm_tup (imm_C imm_int (imm_1 imm_int))) (DE.fpL (de_mPF c_Plane_walked (hr.mono (by decide)) passC (by decide +kernel) (de_var (pv 0) rfl) (dp_cons (de_var (pv 2) rfl) (dp_one (de_var (pv 1) rfl))) (wkN rfl)))) (fun _ => rfl))) (fun _ => rfl) (ds_one (ds_retF (f := (fun a => a)) (de_mPF c_Plane_walked (hr.mono (by decide)) passC (by decide +kernel) (de_var (pv 0) rfl) (dp_cons (de_var (pv 1) rfl) (dp_one (de_var (pv 2) rfl))) (wkN rfl)) (fun _ => rfl))))) (by unfold m_Plane_line; simp only [bo, isIn_dec, andok, orok]), fun _ => .inl rfl⟩
def m_derivation (plane_p : ((((Unit × (Int × Int)) × PySem.Str) × PySem.Str) × (List (((Int × Int) × (Int × Int)) × PySem.Str)))) (corners_p : (List (Int × Int))) : R Er (List ((Int × Int) × (Int × Int) × (Int × Int))) := (R.ok ([] : List ((Int × Int) × (Int × Int) × (Int × Int)))).bind fun (entries_1 : (List ((Int × Int) × (Int × Int) × (Int × Int)))) =>
  ((rSetC corners_p)).bind fun (known_2 : (List (Int × Int))) =>
  (R.ok ([] : List (Int × Int))).bind fun (held_3 : (List (Int × Int))) =>
  ((rSortC known_2)).bind fun (waiting_4 : (List (Int × Int))) =>
  (whileS (fun (s5 : ((List ((Int × Int) × (Int × Int) × (Int × Int))) × (List (Int × Int)) × (List (Int × Int)) × (List (Int × Int)))) => (R.ok (!List.isEmpty s5.2.2.2))) (fun (s5 : ((List ((Int × Int) × (Int × Int) × (Int × Int))) × (List (Int × Int)) × (List (Int × Int)) × (List (Int × Int)))) => ((rPopV s5.2.2.2)).bind fun (corner_6 : (Int × Int)) =>
  (forS (fun (other_7 : (Int × Int)) (s8 : ((List ((Int × Int) × (Int × Int) × (Int × Int))) × (List (Int × Int)) × (List (Int × Int)))) => (((m_Plane_line plane_p corner_6 other_7)).bind fun v17 => forS (fun (between_9 : (Int × Int)) (s10 : ((List ((Int × Int) × (Int × Int) × (Int × Int))) × (List (Int × Int)) × (List (Int × Int)))) => if (!memB between_9 s10.2.1) then (((rSadd s10.2.1 between_9)).bind fun (c12 : (Int × Int)) =>
  ((rApp s10.2.2 between_9)).bind fun (c14 : (Int × Int)) =>
  ((rApp s10.1 (between_9, corner_6, other_7))).bind fun (c16 : ((Int × Int) × (Int × Int) × (Int × Int))) =>
  R.ok ((s10.1 ++ [c16]), (s10.2.1 ++ [c12]), (s10.2.2 ++ [c14]))) else
  (R.ok (s10.1, s10.2.1, s10.2.2))) v17 (s8.1, s8.2.1, s8.2.2)).bind fun (s18 : ((List ((Int × Int) × (Int × Int) × (Int × Int))) × (List (Int × Int)) × (List (Int × Int)))) =>
  R.ok (s18.1, s18.2.1, s18.2.2)) s5.2.2.1 (s5.1, s5.2.1, (List.dropLast s5.2.2.2))).bind fun (s19 : ((List ((Int × Int) × (Int × Int) × (Int × Int))) × (List (Int × Int)) × (List (Int × Int)))) =>
  ((rApp s5.2.2.1 corner_6)).bind fun (c21 : (Int × Int)) =>
  R.ok (s19.1, s19.2.1, (s5.2.2.1 ++ [c21]), s19.2.2)) fuel (entries_1, known_2, held_3, waiting_4)).bind fun (s22 : ((List ((Int × Int) × (Int × Int) × (Int × Int))) × (List (Int × Int)) × (List (Int × Int)) × (List (Int × Int)))) =>
  R.ok s22.1
abbrev sp_derivation (P : Program) (w : World) (K : PySem.W.Frag) : Sp := spD (K := K) EX (tysC (yObj "Plane" ["board", "rising", "falling", "letters"] (tysL (tysL (tysL (tysL tys0 yCn) yStr) yStr) (yDic P w (kTup (ksC (kTup (ksC kInt (ks1 kInt))) (ks1 (kTup (ksC kInt (ks1 kInt)))))) yStr))) (tys1 (yLst yCn))) (qF (K := K) (cLst (yTup (tysC yCn (tysC yCn (tys1 yCn)))))) (fun a => m_derivation a.1 a.2)
theorem sc_derivation : FnScope ["plane", "corners", "entries", "known", "held", "waiting", "corner", "other", "between"] ["plane", "corners"] (defScope s_derivation) := ⟨rfl, rfl, rfl, by decide +kernel, rfl, by decide +kernel, by decide +kernel⟩
theorem ok_derivation {P : Program} {w : World} {K : PySem.W.Frag} {mg : Str → Option Value} {base : Heap} {f : Addr} {fd : FuncData} (F : FnP K "derivation" s_derivation f fd) (c_Plane_line : Met P w K mg base CX 4 "Plane" "line" ["self", "p", "q"] (sp_Plane_line P w K)) (oc : OC K) (bt : Bt mg) : FnOk P w K mg base CX 5 f fd ["plane", "corners"] (sp_derivation P w K) := by
  refine fn_ok F sc_derivation (entC (ent1 rfl)) rfl fun cdv A outer s H E hr a => ?_
  obtain ⟨plane_p, corners_p⟩ := a
  have sc := sc_derivation
  exact ⟨_, fun c => .rt (qF (K := K) (cLst (yTup (tysC yCn (tysC yCn (tys1 yCn))))) c), DS.cast (m' := m_derivation plane_p corners_p) (ds_cons (ρ1 := fun (entries_1 : (List ((Int × Int) × (Int × Int) × (Int × Int)))) => [some (.pl (yObj "Plane" ["board", "rising", "falling", "letters"] (tysL (tysL (tysL (tysL tys0 yCn) yStr) yStr) (yDic P w (kTup (ksC (kTup (ksC kInt (ks1 kInt))) (ks1 (kTup (ksC kInt (ks1 kInt)))))) yStr))) plane_p), some (.pl (yLst yCn) corners_p), some (.ow (cLst (yTup (tysC yCn (tysC yCn (tys1 yCn))))) entries_1), none, none, none, none, none, none]) (ds_setF (i := 2) sc.nd rfl (.inl rfl) (de_lst (T := (yTup (tysC yCn (tysC yCn (tys1 yCn))))) (dl_nil))) (fun (entries_1 : (List ((Int × Int) × (Int × Int) × (Int × Int)))) => ds_cons (ρ1 := fun (known_2 : (List (Int × Int))) => [some (.pl (yObj "Plane" ["board", "rising", "falling", "letters"] (tysL (tysL (tysL (tysL tys0 yCn) yStr) yStr) (yDic P w (kTup (ksC (kTup (ksC kInt (ks1 kInt))) (ks1 (kTup (ksC kInt (ks1 kInt)))))) yStr))) plane_p), some (.pl (yLst yCn) corners_p), some (.ow (cLst (yTup (tysC yCn (tysC yCn (tys1 yCn))))) entries_1), some (.ow (cSet P w) known_2), none, none, none, none, none]) (ds_setF (i := 3) sc.nd rfl (.inl rfl) (de_setL rfl (u64 hr) rfl bt.set (de_var (pv 1) rfl))) (fun (known_2 : (List (Int × Int))) => ds_cons (ρ1 := fun (held_3 : (List (Int × Int))) => [some (.pl (yObj "Plane" ["board", "rising", "falling", "letters"] (tysL (tysL (tysL (tysL tys0 yCn) yStr) yStr) (yDic P w (kTup (ksC (kTup (ksC kInt (ks1 kInt))) (ks1 (kTup (ksC kInt (ks1 kInt)))))) yStr))) plane_p), some (.pl (yLst yCn) corners_p), some (.ow (cLst (yTup (tysC yCn (tysC yCn (tys1 yCn))))) entries_1), some (.ow (cSet P w) known_2), some (.ow (cLst yCn) held_3), none, none, none, none]) (ds_setF (i := 4) sc.nd rfl (.inl rfl) (de_lst (T := yCn) (dl_nil))) (fun (held_3 : (List (Int × Int))) => ds_cons (ρ1 := fun (waiting_4 : (List (Int × Int))) => [some (.pl (yObj "Plane" ["board", "rising", "falling", "letters"] (tysL (tysL (tysL (tysL tys0 yCn) yStr) yStr) (yDic P w (kTup (ksC (kTup (ksC kInt (ks1 kInt))) (ks1 (kTup (ksC kInt (ks1 kInt)))))) yStr))) plane_p), some (.pl (yLst yCn) corners_p), some (.ow (cLst (yTup (tysC yCn (tysC yCn (tys1 yCn))))) entries_1), some (.ow (cSet P w) known_2), some (.ow (cLst yCn) held_3), some (.ow (cLst yCn) waiting_4), none, none, none]) (ds_setF (i := 5) sc.nd rfl (.inl rfl) (de_sortS rfl rfl bt.sorted (de_ownS (pv 3) rfl))) (fun (waiting_4 : (List (Int × Int))) => ds_cons (ρ1 := fun (s22 : ((List ((Int × Int) × (Int × Int) × (Int × Int))) × (List (Int × Int)) × (List (Int × Int)) × (List (Int × Int)))) => [some (.pl (yObj "Plane" ["board", "rising", "falling", "letters"] (tysL (tysL (tysL (tysL tys0 yCn) yStr) yStr) (yDic P w (kTup (ksC (kTup (ksC kInt (ks1 kInt))) (ks1 (kTup (ksC kInt (ks1 kInt)))))) yStr))) plane_p), none, some (.ow (cLst (yTup (tysC yCn (tysC yCn (tys1 yCn))))) s22.1), some (.ow (cSet P w) s22.2.1), some (.ow (cLst yCn) s22.2.2.1), some (.ow (cLst yCn) s22.2.2.2), none, none, none]) (ds_whileS (eH := fun (s5 : ((List ((Int × Int) × (Int × Int) × (Int × Int))) × (List (Int × Int)) × (List (Int × Int)) × (List (Int × Int)))) => [some (.pl (yObj "Plane" ["board", "rising", "falling", "letters"] (tysL (tysL (tysL (tysL tys0 yCn) yStr) yStr) (yDic P w (kTup (ksC (kTup (ksC kInt (ks1 kInt))) (ks1 (kTup (ksC kInt (ks1 kInt)))))) yStr))) plane_p), none, some (.ow (cLst (yTup (tysC yCn (tysC yCn (tys1 yCn))))) s5.1), some (.ow (cSet P w) s5.2.1), some (.ow (cLst yCn) s5.2.2.1), some (.ow (cLst yCn) s5.2.2.2), none, none, none]) (a0 := (entries_1, known_2, held_3, waiting_4)) fuel (passes_of rfl) (.keep (.drop (.keep (.keep (.keep (.keep (.keep (.keep (.keep .nil))))))))) (fun (s5 : ((List ((Int × Int) × (Int × Int) × (Int × Int))) × (List (Int × Int)) × (List (Int × Int)) × (List (Int × Int)))) => dt_lst (de_ownL (pv 5) rfl)) (fun (s5 : ((List ((Int × Int) × (Int × Int) × (Int × Int))) × (List (Int × Int)) × (List (Int × Int)) × (List (Int × Int)))) => ds_cons (ρ1 := fun (corner_6 : (Int × Int)) => [some (.pl (yObj "Plane" ["board", "rising", "falling", "letters"] (tysL (tysL (tysL (tysL tys0 yCn) yStr) yStr) (yDic P w (kTup (ksC (kTup (ksC kInt (ks1 kInt))) (ks1 (kTup (ksC kInt (ks1 kInt)))))) yStr))) plane_p), none, some (.ow (cLst (yTup (tysC yCn (tysC yCn (tys1 yCn))))) s5.1), some (.ow (cSet P w) s5.2.1), some (.ow (cLst yCn) s5.2.2.1), some (.ow (cLst yCn) (List.dropLast s5.2.2.2)), some (.pl yCn corner_6), none, none]) (ds_popSet (i := 5) (j := 6) sc.nd rfl (.inl rfl) (pv 5) rfl) (fun (corner_6 : (Int × Int)) => ds_cons (ρ1 := fun (s19 : ((List ((Int × Int) × (Int × Int) × (Int × Int))) × (List (Int × Int)) × (List (Int × Int)))) => [some (.pl (yObj "Plane" ["board", "rising", "falling", "letters"] (tysL (tysL (tysL (tysL tys0 yCn) yStr) yStr) (yDic P w (kTup (ksC (kTup (ksC kInt (ks1 kInt))) (ks1 (kTup (ksC kInt (ks1 kInt)))))) yStr))) plane_p), none, some (.ow (cLst (yTup (tysC yCn (tysC yCn (tys1 yCn))))) s19.1), some (.ow (cSet P w) s19.2.1), some (.ow (cLst yCn) s5.2.2.1), some (.ow (cLst yCn) s19.2.2), some (.pl yCn corner_6), none, none]) (ds_lend (i := 4) (T := yCn) rfl (nl_imm (imm_tup (imm_C imm_int (imm_1 imm_int)))) (fun p0 => ds_forS (eH := fun (s8 : ((List ((Int × Int) × (Int × Int) × (Int × Int))) × (List (Int × Int)) × (List (Int × Int)))) => [some (.pl (yObj "Plane" ["board", "rising", "falling", "letters"] (tysL (tysL (tysL (tysL tys0 yCn) yStr) yStr) (yDic P w (kTup (ksC (kTup (ksC kInt (ks1 kInt))) (ks1 (kTup (ksC kInt (ks1 kInt)))))) yStr))) plane_p), none, some (.ow (cLst (yTup (tysC yCn (tysC yCn (tys1 yCn))))) s8.1), some (.ow (cSet P w) s8.2.1), some (.pl (yLstA p0 yCn) s5.2.2.1), some (.ow (cLst yCn) s8.2.2), some (.pl yCn corner_6), none, none]) (eB := fun (s8 : ((List ((Int × Int) × (Int × Int) × (Int × Int))) × (List (Int × Int)) × (List (Int × Int)))) (other_7 : (Int × Int)) => [some (.pl (yObj "Plane" ["board", "rising", "falling", "letters"] (tysL (tysL (tysL (tysL tys0 yCn) yStr) yStr) (yDic P w (kTup (ksC (kTup (ksC kInt (ks1 kInt))) (ks1 (kTup (ksC kInt (ks1 kInt)))))) yStr))) plane_p), none, some (.ow (cLst (yTup (tysC yCn (tysC yCn (tys1 yCn))))) s8.1), some (.ow (cSet P w) s8.2.1), some (.pl (yLstA p0 yCn) s5.2.2.1), some (.ow (cLst yCn) s8.2.2), some (.pl yCn corner_6), some (.pl yCn other_7), none]) (a0 := (s5.1, s5.2.1, (List.dropLast s5.2.2.2))) (passes_of rfl) rfl (di_list (DE.as_ (U := (yLst yCn)) (f := fun a => a) (de_var (pv 4) rfl) lstA)) (.keep (.keep (.keep (.keep (.keep (.keep (.keep (.keep (.keep .nil))))))))) (fun (s8 : ((List ((Int × Int) × (Int × Int) × (Int × Int))) × (List (Int × Int)) × (List (Int × Int)))) => dg_name (pg_name (i := 7) sc.nd rfl (.inl rfl))) (fun (s8 : ((List ((Int × Int) × (Int × Int) × (Int × Int))) × (List (Int × Int)) × (List (Int × Int)))) (other_7 : (Int × Int)) => ds_cons (ρ1 := fun (s18 : ((List ((Int × Int) × (Int × Int) × (Int × Int))) × (List (Int × Int)) × (List (Int × Int)))) => [some (.pl (yObj "Plane" ["board", "rising", "falling", "letters"] (tysL (tysL (tysL (tysL tys0 yCn) yStr) yStr) (yDic P w (kTup (ksC (kTup (ksC kInt (ks1 kInt))) (ks1 (kTup (ksC kInt (ks1 kInt)))))) yStr))) plane_p), none, some (.ow (cLst (yTup (tysC yCn (tysC yCn (tys1 yCn))))) s18.1), some (.ow (cSet P w) s18.2.1), some (.pl (yLstA p0 yCn) s5.2.2.1), some (.ow (cLst yCn) s18.2.2), some (.pl yCn corner_6), some (.pl yCn other_7), none]) (ds_forS (eH := fun (s10 : ((List ((Int × Int) × (Int × Int) × (Int × Int))) × (List (Int × Int)) × (List (Int × Int)))) => [some (.pl (yObj "Plane" ["board", "rising", "falling", "letters"] (tysL (tysL (tysL (tysL tys0 yCn) yStr) yStr) (yDic P w (kTup (ksC (kTup (ksC kInt (ks1 kInt))) (ks1 (kTup (ksC kInt (ks1 kInt)))))) yStr))) plane_p), none, some (.ow (cLst (yTup (tysC yCn (tysC yCn (tys1 yCn))))) s10.1), some (.ow (cSet P w) s10.2.1), some (.pl (yLstA p0 yCn) s5.2.2.1), some (.ow (cLst yCn) s10.2.2), some (.pl yCn corner_6), some (.pl yCn other_7), none]) (eB := fun (s10 : ((List ((Int × Int) × (Int × Int) × (Int × Int))) × (List (Int × Int)) × (List (Int × Int)))) (between_9 : (Int × Int)) => [some (.pl (yObj "Plane" ["board", "rising", "falling", "letters"] (tysL (tysL (tysL (tysL tys0 yCn) yStr) yStr) (yDic P w (kTup (ksC (kTup (ksC kInt (ks1 kInt))) (ks1 (kTup (ksC kInt (ks1 kInt)))))) yStr))) plane_p), none, some (.ow (cLst (yTup (tysC yCn (tysC yCn (tys1 yCn))))) s10.1), some (.ow (cSet P w) s10.2.1), some (.pl (yLstA p0 yCn) s5.2.2.1), some (.ow (cLst yCn) s10.2.2), some (.pl yCn corner_6), some (.pl yCn other_7), some (.pl yCn between_9)]) (a0 := (s8.1, s8.2.1, s8.2.2)) (passes_of rfl) rfl (di_list (DE.fpL (de_mPF c_Plane_line (hr.mono (by decide)) passC (by decide +kernel) (de_var (pv 0) rfl) (dp_cons (de_var (pv 6) rfl) (dp_one (de_var (pv 7) rfl))) (wkN rfl)))) (.keep (.keep (.keep (.keep (.keep (.keep (.keep (.keep (.keep .nil))))))))) (fun (s10 : ((List ((Int × Int) × (Int × Int) × (Int × Int))) × (List (Int × Int)) × (List (Int × Int)))) => dg_name (pg_name (i := 8) sc.nd rfl (.inl rfl))) (fun (s10 : ((List ((Int × Int) × (Int × Int) × (Int × Int))) × (List (Int × Int)) × (List (Int × Int)))) (between_9 : (Int × Int)) => ds_one (ds_if1 (DQ.dt (dq_notInS (u64 hr) (de_var (pv 8) rfl) (de_ownS (pv 3) rfl))) (ds_cons (ρ1 := fun (c12 : (Int × Int)) => [some (.pl (yObj "Plane" ["board", "rising", "falling", "letters"] (tysL (tysL (tysL (tysL tys0 yCn) yStr) yStr) (yDic P w (kTup (ksC (kTup (ksC kInt (ks1 kInt))) (ks1 (kTup (ksC kInt (ks1 kInt)))))) yStr))) plane_p), none, some (.ow (cLst (yTup (tysC yCn (tysC yCn (tys1 yCn))))) s10.1), some (.ow (cSet P w) (s10.2.1 ++ [c12])), some (.pl (yLstA p0 yCn) s5.2.2.1), some (.ow (cLst yCn) s10.2.2), some (.pl yCn corner_6), some (.pl yCn other_7), some (.pl yCn between_9)]) (ds_sadd (u64 hr) (pv 3) rfl (de_var (pv 8) rfl)) (fun (c12 : (Int × Int)) => ds_cons (ρ1 := fun (c14 : (Int × Int)) => [some (.pl (yObj "Plane" ["board", "rising", "falling", "letters"] (tysL (tysL (tysL (tysL tys0 yCn) yStr) yStr) (yDic P w (kTup (ksC (kTup (ksC kInt (ks1 kInt))) (ks1 (kTup (ksC kInt (ks1 kInt)))))) yStr))) plane_p), none, some (.ow (cLst (yTup (tysC yCn (tysC yCn (tys1 yCn))))) s10.1), some (.ow (cSet P w) (s10.2.1 ++ [c12])), some (.pl (yLstA p0 yCn) s5.2.2.1), some (.ow (cLst yCn) (s10.2.2 ++ [c14])), some (.pl yCn corner_6), some (.pl yCn other_7), some (.pl yCn between_9)]) (ds_append (pv 5) rfl (de_var (pv 8) rfl)) (fun (c14 : (Int × Int)) => ds_cons (ρ1 := fun (c16 : ((Int × Int) × (Int × Int) × (Int × Int))) => [some (.pl (yObj "Plane" ["board", "rising", "falling", "letters"] (tysL (tysL (tysL (tysL tys0 yCn) yStr) yStr) (yDic P w (kTup (ksC (kTup (ksC kInt (ks1 kInt))) (ks1 (kTup (ksC kInt (ks1 kInt)))))) yStr))) plane_p), none, some (.ow (cLst (yTup (tysC yCn (tysC yCn (tys1 yCn))))) (s10.1 ++ [c16])), some (.ow (cSet P w) (s10.2.1 ++ [c12])), some (.pl (yLstA p0 yCn) s5.2.2.1), some (.ow (cLst yCn) (s10.2.2 ++ [c14])), some (.pl yCn corner_6), some (.pl yCn other_7), some (.pl yCn between_9)]) (ds_append (pv 2) rfl (de_tup (dp_cons (de_var (pv 8) rfl) (dp_cons (de_var (pv 6) rfl) (dp_one (de_var (pv 7) rfl)))))) (fun (c16 : ((Int × Int) × (Int × Int) × (Int × Int))) => ds_nil (c := ((s10.1 ++ [c16]), (s10.2.1 ++ [c12]), (s10.2.2 ++ [c14]))) (by first | exact .inl rfl | exact .inr rfl) (.keep (.keep (.keep (.keep (.keep (.keep (.keep (.keep (.drop .nil))))))))))))) (ds_nil (c := (s10.1, s10.2.1, s10.2.2)) (by first | exact .inl rfl | exact .inr rfl) (.keep (.keep (.keep (.keep (.keep (.keep (.keep (.keep (.drop .nil))))))))))))) (fun (s18 : ((List ((Int × Int) × (Int × Int) × (Int × Int))) × (List (Int × Int)) × (List (Int × Int)))) => ds_nil (c := (s18.1, s18.2.1, s18.2.2)) (by first | exact .inl rfl | exact .inr rfl) (.keep (.keep (.keep (.keep (.keep (.keep (.keep (.drop (.keep .nil)))))))))))) (fun _ _ => rfl) (fun p0 _ => (nls_c (nl_obj (nl_L (nl_L (nl_L (nl_L nl_0 (nl_imm (imm_tup (imm_C imm_int (imm_1 imm_int))))) (nl_imm imm_str)) (nl_imm imm_str)) (nl_dic (imm_tup (imm_C (imm_tup (imm_C imm_int (imm_1 imm_int))) (imm_1 (imm_tup (imm_C imm_int (imm_1 imm_int)))))) imm_str))) (nls_c trivial (nls_c (nlc_lst (nl_imm (imm_tup (imm_C (imm_tup (imm_C imm_int (imm_1 imm_int))) (imm_C (imm_tup (imm_C imm_int (imm_1 imm_int))) (imm_1 (imm_tup (imm_C imm_int (imm_1 imm_int))))))))) (nls_c nlc_set (nls_at (nla_c (nlc_lst (nl_imm (imm_tup (imm_C imm_int (imm_1 imm_int))))) (nla_c (nl_imm (imm_tup (imm_C imm_int (imm_1 imm_int)))) (nla_c trivial (nla_c trivial nla_nil)))))))))) (fun _ _ => rfl)) (fun (s19 : ((List ((Int × Int) × (Int × Int) × (Int × Int))) × (List (Int × Int)) × (List (Int × Int)))) => ds_cons (ρ1 := fun (c21 : (Int × Int)) => [some (.pl (yObj "Plane" ["board", "rising", "falling", "letters"] (tysL (tysL (tysL (tysL tys0 yCn) yStr) yStr) (yDic P w (kTup (ksC (kTup (ksC kInt (ks1 kInt))) (ks1 (kTup (ksC kInt (ks1 kInt)))))) yStr))) plane_p), none, some (.ow (cLst (yTup (tysC yCn (tysC yCn (tys1 yCn))))) s19.1), some (.ow (cSet P w) s19.2.1), some (.ow (cLst yCn) (s5.2.2.1 ++ [c21])), some (.ow (cLst yCn) s19.2.2), some (.pl yCn corner_6), none, none]) (ds_append (pv 4) rfl (de_var (pv 6) rfl)) (fun (c21 : (Int × Int)) => ds_nil (c := (s19.1, s19.2.1, (s5.2.2.1 ++ [c21]), s19.2.2)) (by first | exact .inl rfl | exact .inr rfl) (.keep (.keep (.keep (.keep (.keep (.keep (.drop (.keep (.keep .nil)))))))))))))) (fun (s22 : ((List ((Int × Int) × (Int × Int) × (Int × Int))) × (List (Int × Int)) × (List (Int × Int)) × (List (Int × Int)))) => ds_one (ds_retO (c := s22.1) (pv 2) rfl rfl))))))) (by unfold m_derivation; simp only [bo, isIn_dec, andok, orok]), fun _ => .inl rfl⟩
def m_closure_own (plane_p : ((((Unit × (Int × Int)) × PySem.Str) × PySem.Str) × (List (((Int × Int) × (Int × Int)) × PySem.Str)))) (corners_p : (List (Int × Int))) : R Er (List (Int × Int)) := (((m_derivation plane_p corners_p)).bind fun v3 => (lcR (fun (entry_2 : ((Int × Int) × (Int × Int) × (Int × Int))) => (R.ok true)) (fun (entry_2 : ((Int × Int) × (Int × Int) × (Int × Int))) => (R.ok entry_2.1)) v3)).bind fun (derived_1 : (List (Int × Int))) =>
  ((((rCatL corners_p derived_1)).bind fun v4 => (rSetC v4)).bind fun v5 => (rSortC v5)).bind fun v6 => R.ok v6
abbrev sp_closure_own (P : Program) (w : World) (K : PySem.W.Frag) : Sp := spD (K := K) EX (tysC (yObj "Plane" ["board", "rising", "falling", "letters"] (tysL (tysL (tysL (tysL tys0 yCn) yStr) yStr) (yDic P w (kTup (ksC (kTup (ksC kInt (ks1 kInt))) (ks1 (kTup (ksC kInt (ks1 kInt)))))) yStr))) (tys1 (yLst yCn))) (qF (K := K) (cLst yCn)) (fun a => m_closure_own a.1 a.2)
theorem sc_closure_own : FnScope ["plane", "corners", "derived", "entry"] ["plane", "corners"] (defScope s_closure_own) := ⟨rfl, rfl, rfl, by decide +kernel, rfl, by decide +kernel, by decide +kernel⟩
theorem ok_closure_own {P : Program} {w : World} {K : PySem.W.Frag} {mg : Str → Option Value} {base : Heap} {f : Addr} {fd : FuncData} (F : FnP K "closure" s_closure_own f fd) (c_derivation : Cal P w K mg base CX 5 "derivation" ["plane", "corners"] (sp_derivation P w K)) (oc : OC K) (bt : Bt mg) : FnOk P w K mg base CX 6 f fd ["plane", "corners"] (sp_closure_own P w K) := by
  refine fn_ok F sc_closure_own (entC (ent1 rfl)) rfl fun cdv A outer s H E hr a => ?_
  obtain ⟨plane_p, corners_p⟩ := a
  have sc := sc_closure_own
  exact ⟨_, fun c => .rt (qF (K := K) (cLst yCn) c), DS.cast (m' := m_closure_own plane_p corners_p) (ds_cons (ρ1 := fun (derived_1 : (List (Int × Int))) => [some (.pl (yObj "Plane" ["board", "rising", "falling", "letters"] (tysL (tysL (tysL (tysL tys0 yCn) yStr) yStr) (yDic P w (kTup (ksC (kTup (ksC kInt (ks1 kInt))) (ks1 (kTup (ksC kInt (ks1 kInt)))))) yStr))) plane_p), some (.pl (yLst yCn) corners_p), some (.ow (cLst yCn) derived_1), none]) (ds_setLc (i := 2) (own := [("entry", 3)]) (ρ' := fun (entry_2 : ((Int × Int) × (Int × Int) × (Int × Int))) => [some (.pl (yObj "Plane" ["board", "rising", "falling", "letters"] (tysL (tysL (tysL (tysL tys0 yCn) yStr) yStr) (yDic P w (kTup (ksC (kTup (ksC kInt (ks1 kInt))) (ks1 (kTup (ksC kInt (ks1 kInt)))))) yStr))) plane_p), some (.pl (yLst yCn) corners_p), none, some (.pl (yTup (tysC yCn (tysC yCn (tys1 yCn)))) entry_2)]) (U := yCn) rfl sc.nd rfl rfl rfl (DI.c (di_list (DE.fpL (de_callF c_derivation.ok (hr.mono (by decide)) rfl c_derivation.mg c_derivation.kp c_derivation.bd passC (da_cons (de_var (pv 0) rfl) (da_one (de_var (pv 1) rfl))) (imm_cLst (imm_tup (imm_C (imm_tup (imm_C imm_int (imm_1 imm_int))) (imm_C (imm_tup (imm_C imm_int (imm_1 imm_int))) (imm_1 (imm_tup (imm_C imm_int (imm_1 imm_int)))))))) (wkN rfl))))) (blkOk_by (N := ["plane", "corners", "derived", "entry"]) (sc := defScope s_closure_own) (by decide +kernel)) (fun _ _ _ _ _ => dgc (dg_name (pg_name (i := 3) sc.nd rfl (by first | exact .inl rfl | exact .inr rfl))) (by first | rfl | (dsimp only [Blk, Cx.blk, cxOf]; try rfl))) (by decide) (fun _ _ _ _ _ (entry_2 : ((Int × Int) × (Int × Int) × (Int × Int))) => dtc (dts_nil) (by first | rfl | (dsimp only [Blk, Cx.blk, cxOf]; try rfl))) (fun _ _ _ _ _ (entry_2 : ((Int × Int) × (Int × Int) × (Int × Int))) => dec (de_nth (de_var (pv 3) rfl) nth_0) (by first | rfl | (dsimp only [Blk, Cx.blk, cxOf]; try rfl)))) (fun (derived_1 : (List (Int × Int))) => ds_one (ds_retF (f := (fun a => a)) (de_sortS rfl rfl bt.sorted (DE.fp (de_setL rfl (u64 hr) rfl bt.set (DE.fpL (de_catL (imm_tup (imm_C imm_int (imm_1 imm_int))) (DE.fpL (de_list1 sq_lst (imm_tup (imm_C imm_int (imm_1 imm_int))) rfl bt.list (de_var (pv 1) rfl))) (de_ownL (pv 2) rfl)))) (fun h => h))) (fun _ => rfl)))) (by unfold m_closure_own; simp only [bo, isIn_dec, andok, orok]), fun _ => .inl rfl⟩
def m_is_integer (told_p : Int) : R Er Bool := R.ok (true && (!false))
abbrev sp_is_integer (P : Program) (w : World) (K : PySem.W.Frag) : Sp := spD (K := K) EX (tys1 yInt) (qP (K := K) yBl) (fun a => m_is_integer a)
theorem sc_is_integer : FnScope ["_law_told"] ["_law_told"] (defScope s_is_integer) := ⟨rfl, rfl, rfl, by decide +kernel, rfl, by decide +kernel, by decide +kernel⟩
theorem ok_is_integer {P : Program} {w : World} {K : PySem.W.Frag} {mg : Str → Option Value} {base : Heap} {f : Addr} {fd : FuncData} (F : FnP K "_law_is_integer" s_is_integer f fd) (oc : OC K) (bt : Bt mg) : FnOk P w K mg base CX 1 f fd ["_law_told"] (sp_is_integer P w K) := by
  refine fn_ok F sc_is_integer (ent1 rfl) rfl fun cdv A outer s H E hr told_p => ?_
  have sc := sc_is_integer
  exact ⟨_, fun c => .rt (qP (K := K) yBl c), DS.cast (m' := m_is_integer told_p) (ds_one (ds_ret (f := (fun a => a)) (de_and (DQ.de (dq_isi (cls := "int") (isi_int (b := true) (by decide +kernel)) rfl bt.isinstance (by decide +kernel) rfl bt.int (by decide +kernel) (de_var (pv 0) rfl))) (de_one (de_not (DQ.de (dq_isi (cls := "bool") (isi_int (b := false) (by decide +kernel)) rfl bt.isinstance (by decide +kernel) rfl bt.bool (by decide +kernel) (de_var (pv 0) rfl)))))) (fun _ => rfl))) (by unfold m_is_integer; simp only [bo, isIn_dec, andok, orok]), fun _ => .inl rfl⟩
def m_is_corner (told_p : (Int × Int)) : R Er Bool := ((if true then (if (decide (((2 : Nat) : Int) = (2 : Int))) then ((m_is_integer told_p.1)).bind fun v1 => (if v1 then (m_is_integer told_p.2) else R.ok false) else R.ok false) else R.ok false)).bind fun v2 => R.ok v2
abbrev sp_is_corner (P : Program) (w : World) (K : PySem.W.Frag) : Sp := spD (K := K) EX (tys1 yCn) (qP (K := K) yBl) (fun a => m_is_corner a)
theorem sc_is_corner : FnScope ["_law_told"] ["_law_told"] (defScope s_is_corner) := ⟨rfl, rfl, rfl, by decide +kernel, rfl, by decide +kernel, by decide +kernel⟩
theorem ok_is_corner {P : Program} {w : World} {K : PySem.W.Frag} {mg : Str → Option Value} {base : Heap} {f : Addr} {fd : FuncData} (F : FnP K "_law_is_corner" s_is_corner f fd) (c_is_integer : Cal P w K mg base CX 1 "_law_is_integer" ["_law_told"] (sp_is_integer P w K)) (oc : OC K) (bt : Bt mg) : FnOk P w K mg base CX 2 f fd ["_law_told"] (sp_is_corner P w K) := by
  refine fn_ok F sc_is_corner (ent1 rfl) rfl fun cdv A outer s H E hr told_p => ?_
  have sc := sc_is_corner
  exact ⟨_, fun c => .rt (qP (K := K) yBl c), DS.cast (m' := m_is_corner told_p) (ds_one (ds_ret (f := (fun a => a)) (de_and (DQ.de (dq_isi (cls := "tuple") (isi_tup (b := true) (by decide +kernel)) rfl bt.isinstance (by decide +kernel) rfl bt.tuple (by decide +kernel) (de_var (pv 0) rfl))) (de_and (DQ.de (dq_eqI (de_len (len_tupN (n := 2) rfl) rfl bt.len (de_var (pv 0) rfl)) (de_c (T := yInt) (a := (2 : Int)) pe_int (fun _ => rfl)))) (de_and (de_call c_is_integer.ok (hr.mono (by decide)) rfl c_is_integer.mg c_is_integer.kp c_is_integer.bd passC (da_one (de_nth (de_var (pv 0) rfl) nth_0)) imm_bl (wkN rfl)) (de_one (de_call c_is_integer.ok (hr.mono (by decide)) rfl c_is_integer.mg c_is_integer.kp c_is_integer.bd passC (da_one (de_nth (de_var (pv 0) rfl) (nth_s nth_1))) imm_bl (wkN rfl)))))) (fun _ => rfl))) (by unfold m_is_corner; simp only [bo, isIn_dec, andok, orok]), fun _ => .inl rfl⟩
def m_is_row (told_p : (List (Int × Int))) (wanted_p : (List (Int × Int))) : R Er Bool := if ((!true) || (!decide ((List.length told_p : Int) = (List.length wanted_p : Int)))) then (R.ok false) else
  (R.seqX (((rRng 0 (List.length wanted_p : Int))).bind fun v9 => forX (fun (k_1 : Int) (s2 : Unit) => (((((rIx told_p k_1)).bind fun v3 => (m_is_corner v3)).bind fun v4 => R.ok (!v4)).bind fun v7 => (if v7 then R.ok true else ((rIx told_p k_1)).bind fun v5 => ((rIx wanted_p k_1)).bind fun v6 => R.ok (!decide (v5 = v6)))).bind fun v8 => if v8 then (R.ok (.inr false)) else
  (R.ok (.inl ()))) v9 ()) (fun a => a) fun (s10 : Unit) =>
  R.ok true)
abbrev sp_is_row (P : Program) (w : World) (K : PySem.W.Frag) : Sp := spD (K := K) EX (tysC (yLst yCn) (tys1 (yLst yCn))) (qP (K := K) yBl) (fun a => m_is_row a.1 a.2)
theorem sc_is_row : FnScope ["_law_told", "_law_wanted", "_law_k"] ["_law_told", "_law_wanted"] (defScope s_is_row) := ⟨rfl, rfl, rfl, by decide +kernel, rfl, by decide +kernel, by decide +kernel⟩
theorem ok_is_row {P : Program} {w : World} {K : PySem.W.Frag} {mg : Str → Option Value} {base : Heap} {f : Addr} {fd : FuncData} (F : FnP K "_law_is_row" s_is_row f fd) (c_is_corner : Cal P w K mg base CX 2 "_law_is_corner" ["_law_told"] (sp_is_corner P w K)) (oc : OC K) (bt : Bt mg) : FnOk P w K mg base CX 3 f fd ["_law_told", "_law_wanted"] (sp_is_row P w K) := by
  refine fn_ok F sc_is_row (entC (ent1 rfl)) rfl fun cdv A outer s H E hr a => ?_
  obtain ⟨told_p, wanted_p⟩ := a
  have sc := sc_is_row
  exact ⟨_, fun c => .rt (qP (K := K) yBl c), DS.cast (m' := m_is_row told_p wanted_p) (ds_ift (DW.dt (dw_or (dt_not (DQ.dt (dq_isi (cls := "list") (isi_lst (b := true) (by decide +kernel)) rfl bt.isinstance (by decide +kernel) rfl bt.list (by decide +kernel) (de_var (pv 0) rfl)))) (dw_or1 (DQ.dt (dq_neI (de_len len_lst rfl bt.len (de_var (pv 0) rfl)) (de_len len_lst rfl bt.len (de_var (pv 1) rfl))))))) (ds_one (ds_ret (f := (fun a => a)) (de_c (T := yBl) (a := false) pe_bl (fun _ => rfl)) (fun _ => rfl))) (fun _ => rfl) (ds_seqX (f := (fun a => a)) (ρ1 := fun (s10 : Unit) => [some (.pl (yLst yCn) told_p), some (.pl (yLst yCn) wanted_p), none]) (ds_forX (eH := fun (s2 : Unit) => [some (.pl (yLst yCn) told_p), some (.pl (yLst yCn) wanted_p), none]) (eB := fun (s2 : Unit) (k_1 : Int) => [some (.pl (yLst yCn) told_p), some (.pl (yLst yCn) wanted_p), some (.pl yInt k_1)]) (a0 := ()) (passes_of rfl) rfl (di_range1 (by rfl) bt.range (de_len len_lst rfl bt.len (de_var (pv 1) rfl))) (.keep (.keep (.keep .nil))) (fun (s2 : Unit) => dg_name (pg_name (i := 2) sc.nd rfl (.inl rfl))) (fun _ => ⟨_, rfl⟩) (fun (s2 : Unit) (k_1 : Int) => ds_one (ds_if1 (DW.dt (dw_or (dt_not (dt_val (de_call c_is_corner.ok (hr.mono (by decide)) rfl c_is_corner.mg c_is_corner.kp c_is_corner.bd passC (da_one (de_ixL (de_var (pv 0) rfl) (de_var (pv 2) rfl))) imm_bl (wkN rfl)))) (dw_or1 (DQ.dt (dq_ne (q_tup (q_C q_int (q_1 q_int))) (u64 hr) (lo rfl) (lo rfl) (de_ixL (de_var (pv 0) rfl) (de_var (pv 2) rfl)) (de_ixL (de_var (pv 1) rfl) (de_var (pv 2) rfl))))))) (ds_one (ds_ret (f := (fun a => (.inr a))) (de_c (T := yBl) (a := false) pe_bl (fun _ => rfl)) (fun _ => rfl))) (ds_nil (c := (.inl ())) (by first | exact .inl rfl | exact .inr rfl) (.keep (.keep (.drop .nil))))))) (fun (s10 : Unit) => ds_one (ds_ret (f := (fun a => a)) (de_c (T := yBl) (a := true) pe_bl (fun _ => rfl)) (fun _ => rfl))) (fun x => by first | exact ⟨rfl, trivial⟩ | (cases x <;> exact ⟨rfl, trivial⟩)))) (by unfold m_is_row; simp only [bo, isIn_dec, andok, orok]), fun _ => .inl rfl⟩
def m_is_right_derivation (table_p : (List (((Int × Int) × (Int × Int)) × PySem.Str))) (corners_p : (List (Int × Int))) (closed_p : (List (Int × Int))) (told_p : (List ((Int × Int) × (Int × Int) × (Int × Int)))) : R Er Bool := ((if (!true) then R.ok true else (((lcR (fun (corner_1 : (Int × Int)) => (R.ok (!memB corner_1 corners_p))) (fun (corner_1 : (Int × Int)) => (R.ok corner_1)) closed_p)).bind fun v2 => R.ok (List.length v2 : Int)).bind fun v3 => R.ok (!decide ((List.length told_p : Int) = v3)))).bind fun v18 => if v18 then (R.ok false) else
  ((R.ok corners_p).bind fun (known_4 : (List (Int × Int))) =>
  R.seqX (forX (fun (entry_5 : ((Int × Int) × (Int × Int) × (Int × Int))) (s6 : (List (Int × Int))) => if ((!true) || (!decide (((3 : Nat) : Int) = (3 : Int)))) then (R.ok (.inr false)) else
  (((((m_is_corner entry_5.1)).bind fun v7 => R.ok (!v7)).bind fun v11 => (if v11 then R.ok true else (((m_is_corner entry_5.2.1)).bind fun v8 => R.ok (!v8)).bind fun v10 => (if v10 then R.ok true else ((m_is_corner entry_5.2.2)).bind fun v9 => R.ok (!v9)))).bind fun v16 => if v16 then (R.ok (.inr false)) else
  (if ((memB entry_5.1 s6) || ((!memB entry_5.1 closed_p) || ((!memB entry_5.2.1 s6) || (!memB entry_5.2.2 s6)))) then (R.ok (.inr false)) else
  ((((m_line table_p entry_5.2.1 entry_5.2.2)).bind fun v12 => R.ok (!memB entry_5.1 v12)).bind fun v15 => if v15 then (R.ok (.inr false)) else
  (((rApp s6 entry_5.1)).bind fun (c14 : (Int × Int)) =>
  R.ok (.inl (s6 ++ [c14]))))))) told_p known_4) (fun a => a) fun (s17 : (List (Int × Int))) =>
  R.ok true)
abbrev sp_is_right_derivation (P : Program) (w : World) (K : PySem.W.Frag) : Sp := spD (K := K) EX (tysC (yDic P w (kTup (ksC (kTup (ksC kInt (ks1 kInt))) (ks1 (kTup (ksC kInt (ks1 kInt)))))) yStr) (tysC (yLst yCn) (tysC (yLst yCn) (tys1 (yLst (yTup (tysC yCn (tysC yCn (tys1 yCn))))))))) (qP (K := K) yBl) (fun a => m_is_right_derivation a.1 a.2.1 a.2.2.1 a.2.2.2)
theorem sc_is_right_derivation : FnScope ["_law_table", "_law_corners", "_law_closed", "_law_told", "_law_known", "_law_entry", "_law_corner"] ["_law_table", "_law_corners", "_law_closed", "_law_told"] (defScope s_is_right_derivation) := ⟨rfl, rfl, rfl, by decide +kernel, rfl, by decide +kernel, by decide +kernel⟩
theorem ok_is_right_derivation {P : Program} {w : World} {K : PySem.W.Frag} {mg : Str → Option Value} {base : Heap} {f : Addr} {fd : FuncData} (F : FnP K "_law_is_right_derivation" s_is_right_derivation f fd) (c_is_corner : Cal P w K mg base CX 2 "_law_is_corner" ["_law_told"] (sp_is_corner P w K)) (c_line : Cal P w K mg base CX 3 "_law_line" ["_law_table", "_law_p", "_law_q"] (sp_line P w K)) (oc : OC K) (bt : Bt mg) : FnOk P w K mg base CX 4 f fd ["_law_table", "_law_corners", "_law_closed", "_law_told"] (sp_is_right_derivation P w K) := by
  refine fn_ok F sc_is_right_derivation (entC (entC (entC (ent1 rfl)))) rfl fun cdv A outer s H E hr a => ?_
  obtain ⟨table_p, corners_p, closed_p, told_p⟩ := a
  have sc := sc_is_right_derivation
  exact ⟨_, fun c => .rt (qP (K := K) yBl c), DS.cast (m' := m_is_right_derivation table_p corners_p closed_p told_p) (ds_ift (DW.dt (dw_or (dt_not (DQ.dt (dq_isi (cls := "list") (isi_lst (b := true) (by decide +kernel)) rfl bt.isinstance (by decide +kernel) rfl bt.list (by decide +kernel) (de_var (pv 3) rfl)))) (dw_or1 (DQ.dt (dq_neI (de_len len_lst rfl bt.len (de_var (pv 3) rfl)) (de_len len_lst rfl bt.len (DE.fpL (de_lc (own := [("_law_corner", 6)]) (ρ' := fun (corner_1 : (Int × Int)) => [some (.pl (yDic P w (kTup (ksC (kTup (ksC kInt (ks1 kInt))) (ks1 (kTup (ksC kInt (ks1 kInt)))))) yStr) table_p), some (.pl (yLst yCn) corners_p), some (.pl (yLst yCn) closed_p), some (.pl (yLst (yTup (tysC yCn (tysC yCn (tys1 yCn))))) told_p), none, none, some (.pl yCn corner_1)]) (U := yCn) rfl sc.nd (DI.c (di_list (de_var (pv 2) rfl))) (blkOk_by (N := ["_law_table", "_law_corners", "_law_closed", "_law_told", "_law_known", "_law_entry", "_law_corner"]) (sc := defScope s_is_right_derivation) (by decide +kernel)) (fun _ _ _ _ _ => dgc (dg_name (pg_name (i := 6) sc.nd rfl (by first | exact .inl rfl | exact .inr rfl))) (by first | rfl | (dsimp only [Blk, Cx.blk, cxOf]; try rfl))) (by decide) (fun _ _ _ _ _ (corner_1 : (Int × Int)) => dtc (dts_one (DQ.dt (dq_notInL (q_tup (q_C q_int (q_1 q_int))) (u65 hr) (lo rfl) (de_var (pv 6) rfl) (de_var (pv 1) rfl)))) (by first | rfl | (dsimp only [Blk, Cx.blk, cxOf]; try rfl))) (fun _ _ _ _ _ (corner_1 : (Int × Int)) => dec (de_var (pv 6) rfl) (by first | rfl | (dsimp only [Blk, Cx.blk, cxOf]; try rfl))))))))))) (ds_one (ds_ret (f := (fun a => a)) (de_c (T := yBl) (a := false) pe_bl (fun _ => rfl)) (fun _ => rfl))) (fun _ => rfl) (ds_cons (ρ1 := fun (known_4 : (List (Int × Int))) => [some (.pl (yDic P w (kTup (ksC (kTup (ksC kInt (ks1 kInt))) (ks1 (kTup (ksC kInt (ks1 kInt)))))) yStr) table_p), some (.pl (yLst yCn) corners_p), some (.pl (yLst yCn) closed_p), some (.pl (yLst (yTup (tysC yCn (tysC yCn (tys1 yCn))))) told_p), some (.ow (cLst yCn) known_4), none, none]) (ds_setF (i := 4) sc.nd rfl (.inl rfl) (de_list1 sq_lst (imm_tup (imm_C imm_int (imm_1 imm_int))) rfl bt.list (de_var (pv 1) rfl))) (fun (known_4 : (List (Int × Int))) => ds_seqX (f := (fun a => a)) (ρ1 := fun (s17 : (List (Int × Int))) => [some (.pl (yDic P w (kTup (ksC (kTup (ksC kInt (ks1 kInt))) (ks1 (kTup (ksC kInt (ks1 kInt)))))) yStr) table_p), some (.pl (yLst yCn) corners_p), some (.pl (yLst yCn) closed_p), some (.pl (yLst (yTup (tysC yCn (tysC yCn (tys1 yCn))))) told_p), some (.ow (cLst yCn) s17), none, none]) (ds_forX (eH := fun (s6 : (List (Int × Int))) => [some (.pl (yDic P w (kTup (ksC (kTup (ksC kInt (ks1 kInt))) (ks1 (kTup (ksC kInt (ks1 kInt)))))) yStr) table_p), some (.pl (yLst yCn) corners_p), some (.pl (yLst yCn) closed_p), some (.pl (yLst (yTup (tysC yCn (tysC yCn (tys1 yCn))))) told_p), some (.ow (cLst yCn) s6), none, none]) (eB := fun (s6 : (List (Int × Int))) (entry_5 : ((Int × Int) × (Int × Int) × (Int × Int))) => [some (.pl (yDic P w (kTup (ksC (kTup (ksC kInt (ks1 kInt))) (ks1 (kTup (ksC kInt (ks1 kInt)))))) yStr) table_p), some (.pl (yLst yCn) corners_p), some (.pl (yLst yCn) closed_p), some (.pl (yLst (yTup (tysC yCn (tysC yCn (tys1 yCn))))) told_p), some (.ow (cLst yCn) s6), some (.pl (yTup (tysC yCn (tysC yCn (tys1 yCn)))) entry_5), none]) (a0 := known_4) (passes_of rfl) rfl (di_list (de_var (pv 3) rfl)) (.keep (.keep (.keep (.keep (.keep (.keep (.keep .nil))))))) (fun (s6 : (List (Int × Int))) => dg_name (pg_name (i := 5) sc.nd rfl (.inl rfl))) (fun _ => ⟨_, rfl⟩) (fun (s6 : (List (Int × Int))) (entry_5 : ((Int × Int) × (Int × Int) × (Int × Int))) => ds_ift (DW.dt (dw_or (dt_not (DQ.dt (dq_isi (cls := "tuple") (isi_tup (b := true) (by decide +kernel)) rfl bt.isinstance (by decide +kernel) rfl bt.tuple (by decide +kernel) (de_var (pv 5) rfl)))) (dw_or1 (DQ.dt (dq_neI (de_len (len_tupN (n := 3) rfl) rfl bt.len (de_var (pv 5) rfl)) (de_c (T := yInt) (a := (3 : Int)) pe_int (fun _ => rfl))))))) (ds_one (ds_ret (f := (fun a => (.inr a))) (de_c (T := yBl) (a := false) pe_bl (fun _ => rfl)) (fun _ => rfl))) (fun x => by cases x <;> rfl) (ds_ift (DW.dt (dw_or (dt_not (dt_val (de_call c_is_corner.ok (hr.mono (by decide)) rfl c_is_corner.mg c_is_corner.kp c_is_corner.bd passC (da_one (de_nth (de_var (pv 5) rfl) nth_0)) imm_bl (wkN rfl)))) (dw_or (dt_not (dt_val (de_call c_is_corner.ok (hr.mono (by decide)) rfl c_is_corner.mg c_is_corner.kp c_is_corner.bd passC (da_one (de_nth (de_var (pv 5) rfl) (nth_s nth_0))) imm_bl (wkN rfl)))) (dw_or1 (dt_not (dt_val (de_call c_is_corner.ok (hr.mono (by decide)) rfl c_is_corner.mg c_is_corner.kp c_is_corner.bd passC (da_one (de_nth (de_var (pv 5) rfl) (nth_s (nth_s nth_1)))) imm_bl (wkN rfl)))))))) (ds_one (ds_ret (f := (fun a => (.inr a))) (de_c (T := yBl) (a := false) pe_bl (fun _ => rfl)) (fun _ => rfl))) (fun x => by cases x <;> rfl) (ds_ift (DW.dt (dw_or (DQ.dt (dq_inL (q_tup (q_C q_int (q_1 q_int))) (u65 hr) (lo rfl) (de_nth (de_var (pv 5) rfl) nth_0) (de_ownL (pv 4) rfl))) (dw_or (DQ.dt (dq_notInL (q_tup (q_C q_int (q_1 q_int))) (u65 hr) (lo rfl) (de_nth (de_var (pv 5) rfl) nth_0) (de_var (pv 2) rfl))) (dw_or (DQ.dt (dq_notInL (q_tup (q_C q_int (q_1 q_int))) (u65 hr) (lo rfl) (de_nth (de_var (pv 5) rfl) (nth_s nth_0)) (de_ownL (pv 4) rfl))) (dw_or1 (DQ.dt (dq_notInL (q_tup (q_C q_int (q_1 q_int))) (u65 hr) (lo rfl) (de_nth (de_var (pv 5) rfl) (nth_s (nth_s nth_1))) (de_ownL (pv 4) rfl)))))))) (ds_one (ds_ret (f := (fun a => (.inr a))) (de_c (T := yBl) (a := false) pe_bl (fun _ => rfl)) (fun _ => rfl))) (fun x => by cases x <;> rfl) (ds_ift (DQ.dt (dq_notInL (q_tup (q_C q_int (q_1 q_int))) (u65 hr) (lo rfl) (de_nth (de_var (pv 5) rfl) nth_0) (DE.fpL (de_callF c_line.ok (hr.mono (by decide)) rfl c_line.mg c_line.kp c_line.bd passC (da_cons (de_var (pv 0) rfl) (da_cons (de_nth (de_var (pv 5) rfl) (nth_s nth_0)) (da_one (de_nth (de_var (pv 5) rfl) (nth_s (nth_s nth_1)))))) (imm_cLst (imm_tup (imm_C imm_int (imm_1 imm_int)))) (wkN rfl))))) (ds_one (ds_ret (f := (fun a => (.inr a))) (de_c (T := yBl) (a := false) pe_bl (fun _ => rfl)) (fun _ => rfl))) (fun x => by cases x <;> rfl) (ds_cons (ρ1 := fun (c14 : (Int × Int)) => [some (.pl (yDic P w (kTup (ksC (kTup (ksC kInt (ks1 kInt))) (ks1 (kTup (ksC kInt (ks1 kInt)))))) yStr) table_p), some (.pl (yLst yCn) corners_p), some (.pl (yLst yCn) closed_p), some (.pl (yLst (yTup (tysC yCn (tysC yCn (tys1 yCn))))) told_p), some (.ow (cLst yCn) (s6 ++ [c14])), some (.pl (yTup (tysC yCn (tysC yCn (tys1 yCn)))) entry_5), none]) (ds_append (pv 4) rfl (de_nth (de_var (pv 5) rfl) nth_0)) (fun (c14 : (Int × Int)) => ds_nil (c := (.inl (s6 ++ [c14]))) (by first | exact .inl rfl | exact .inr rfl) (.keep (.keep (.keep (.keep (.keep (.drop (.keep .nil)))))))))))))) (fun (s17 : (List (Int × Int))) => ds_one (ds_ret (f := (fun a => a)) (de_c (T := yBl) (a := true) pe_bl (fun _ => rfl)) (fun _ => rfl))) (fun x => by first | exact ⟨rfl, trivial⟩ | (cases x <;> exact ⟨rfl, trivial⟩))))) (by unfold m_is_right_derivation; simp only [bo, isIn_dec, andok, orok]), fun _ => .inl rfl⟩
def m_is_derivation (plane_p : ((((Unit × (Int × Int)) × PySem.Str) × PySem.Str) × (List (((Int × Int) × (Int × Int)) × PySem.Str)))) (corners_p : (List (Int × Int))) (entries_p : (List ((Int × Int) × (Int × Int) × (Int × Int)))) : R Er Bool := ((rSetC corners_p)).bind fun (known_1 : (List (Int × Int))) =>
  R.seqX (forX (fun (i2 : ((Int × Int) × (Int × Int) × (Int × Int))) (s3 : (List (Int × Int))) => if ((!memB i2.2.1 s3) || (!memB i2.2.2 s3)) then (R.ok (.inr false)) else
  ((((m_Plane_line plane_p i2.2.1 i2.2.2)).bind fun v7 => R.ok (!memB i2.1 v7)).bind fun v10 => if v10 then (R.ok (.inr false)) else
  (((rSadd s3 i2.1)).bind fun (c9 : (Int × Int)) =>
  R.ok (.inl (s3 ++ [c9]))))) entries_p known_1) (fun a => a) fun (s11 : (List (Int × Int))) =>
  R.ok true
abbrev sp_is_derivation (P : Program) (w : World) (K : PySem.W.Frag) : Sp := spD (K := K) EX (tysC (yObj "Plane" ["board", "rising", "falling", "letters"] (tysL (tysL (tysL (tysL tys0 yCn) yStr) yStr) (yDic P w (kTup (ksC (kTup (ksC kInt (ks1 kInt))) (ks1 (kTup (ksC kInt (ks1 kInt)))))) yStr))) (tysC (yLst yCn) (tys1 (yLst (yTup (tysC yCn (tysC yCn (tys1 yCn)))))))) (qP (K := K) yBl) (fun a => m_is_derivation a.1 a.2.1 a.2.2)
theorem sc_is_derivation : FnScope ["plane", "corners", "entries", "known", "corner", "a", "b"] ["plane", "corners", "entries"] (defScope s_is_derivation) := ⟨rfl, rfl, rfl, by decide +kernel, rfl, by decide +kernel, by decide +kernel⟩
theorem ok_is_derivation {P : Program} {w : World} {K : PySem.W.Frag} {mg : Str → Option Value} {base : Heap} {f : Addr} {fd : FuncData} (F : FnP K "is_derivation" s_is_derivation f fd) (c_Plane_line : Met P w K mg base CX 4 "Plane" "line" ["self", "p", "q"] (sp_Plane_line P w K)) (oc : OC K) (bt : Bt mg) : FnOk P w K mg base CX 5 f fd ["plane", "corners", "entries"] (sp_is_derivation P w K) := by
  refine fn_ok F sc_is_derivation (entC (entC (ent1 rfl))) rfl fun cdv A outer s H E hr a => ?_
  obtain ⟨plane_p, corners_p, entries_p⟩ := a
  have sc := sc_is_derivation
  exact ⟨_, fun c => .rt (qP (K := K) yBl c), DS.cast (m' := m_is_derivation plane_p corners_p entries_p) (ds_cons (ρ1 := fun (known_1 : (List (Int × Int))) => [some (.pl (yObj "Plane" ["board", "rising", "falling", "letters"] (tysL (tysL (tysL (tysL tys0 yCn) yStr) yStr) (yDic P w (kTup (ksC (kTup (ksC kInt (ks1 kInt))) (ks1 (kTup (ksC kInt (ks1 kInt)))))) yStr))) plane_p), some (.pl (yLst yCn) corners_p), some (.pl (yLst (yTup (tysC yCn (tysC yCn (tys1 yCn))))) entries_p), some (.ow (cSet P w) known_1), none, none, none]) (ds_setF (i := 3) sc.nd rfl (.inl rfl) (de_setL rfl (u64 hr) rfl bt.set (de_var (pv 1) rfl))) (fun (known_1 : (List (Int × Int))) => ds_seqX (f := (fun a => a)) (ρ1 := fun (s11 : (List (Int × Int))) => [some (.pl (yObj "Plane" ["board", "rising", "falling", "letters"] (tysL (tysL (tysL (tysL tys0 yCn) yStr) yStr) (yDic P w (kTup (ksC (kTup (ksC kInt (ks1 kInt))) (ks1 (kTup (ksC kInt (ks1 kInt)))))) yStr))) plane_p), some (.pl (yLst yCn) corners_p), some (.pl (yLst (yTup (tysC yCn (tysC yCn (tys1 yCn))))) entries_p), some (.ow (cSet P w) s11), none, none, none]) (ds_forX (eH := fun (s3 : (List (Int × Int))) => [some (.pl (yObj "Plane" ["board", "rising", "falling", "letters"] (tysL (tysL (tysL (tysL tys0 yCn) yStr) yStr) (yDic P w (kTup (ksC (kTup (ksC kInt (ks1 kInt))) (ks1 (kTup (ksC kInt (ks1 kInt)))))) yStr))) plane_p), some (.pl (yLst yCn) corners_p), some (.pl (yLst (yTup (tysC yCn (tysC yCn (tys1 yCn))))) entries_p), some (.ow (cSet P w) s3), none, none, none]) (eB := fun (s3 : (List (Int × Int))) (i2 : ((Int × Int) × (Int × Int) × (Int × Int))) => [some (.pl (yObj "Plane" ["board", "rising", "falling", "letters"] (tysL (tysL (tysL (tysL tys0 yCn) yStr) yStr) (yDic P w (kTup (ksC (kTup (ksC kInt (ks1 kInt))) (ks1 (kTup (ksC kInt (ks1 kInt)))))) yStr))) plane_p), some (.pl (yLst yCn) corners_p), some (.pl (yLst (yTup (tysC yCn (tysC yCn (tys1 yCn))))) entries_p), some (.ow (cSet P w) s3), some (.pl yCn i2.1), some (.pl yCn i2.2.1), some (.pl yCn i2.2.2)]) (a0 := known_1) (passes_of rfl) rfl (di_list (de_var (pv 2) rfl)) (.keep (.keep (.keep (.keep (.keep (.keep (.keep .nil))))))) (fun (s3 : (List (Int × Int))) => dg_tup rfl (dgs_c (ρ' := fun (a4 : (Int × Int)) => [some (.pl (yObj "Plane" ["board", "rising", "falling", "letters"] (tysL (tysL (tysL (tysL tys0 yCn) yStr) yStr) (yDic P w (kTup (ksC (kTup (ksC kInt (ks1 kInt))) (ks1 (kTup (ksC kInt (ks1 kInt)))))) yStr))) plane_p), some (.pl (yLst yCn) corners_p), some (.pl (yLst (yTup (tysC yCn (tysC yCn (tys1 yCn))))) entries_p), some (.ow (cSet P w) s3), some (.pl yCn a4), none, none]) (dg_name (pg_name (i := 4) sc.nd rfl (.inl rfl))) (fun (a4 : (Int × Int)) => dgs_c (ρ' := fun (a5 : (Int × Int)) => [some (.pl (yObj "Plane" ["board", "rising", "falling", "letters"] (tysL (tysL (tysL (tysL tys0 yCn) yStr) yStr) (yDic P w (kTup (ksC (kTup (ksC kInt (ks1 kInt))) (ks1 (kTup (ksC kInt (ks1 kInt)))))) yStr))) plane_p), some (.pl (yLst yCn) corners_p), some (.pl (yLst (yTup (tysC yCn (tysC yCn (tys1 yCn))))) entries_p), some (.ow (cSet P w) s3), some (.pl yCn a4), some (.pl yCn a5), none]) (dg_name (pg_name (i := 5) sc.nd rfl (.inl rfl))) (fun (a5 : (Int × Int)) => dgs_1 (ρ' := fun (a6 : (Int × Int)) => [some (.pl (yObj "Plane" ["board", "rising", "falling", "letters"] (tysL (tysL (tysL (tysL tys0 yCn) yStr) yStr) (yDic P w (kTup (ksC (kTup (ksC kInt (ks1 kInt))) (ks1 (kTup (ksC kInt (ks1 kInt)))))) yStr))) plane_p), some (.pl (yLst yCn) corners_p), some (.pl (yLst (yTup (tysC yCn (tysC yCn (tys1 yCn))))) entries_p), some (.ow (cSet P w) s3), some (.pl yCn a4), some (.pl yCn a5), some (.pl yCn a6)]) (dg_name (pg_name (i := 6) sc.nd rfl (.inl rfl))))))) (fun _ => ⟨_, rfl⟩) (fun (s3 : (List (Int × Int))) (i2 : ((Int × Int) × (Int × Int) × (Int × Int))) => ds_ift (DW.dt (dw_or (DQ.dt (dq_notInS (u64 hr) (de_var (pv 5) rfl) (de_ownS (pv 3) rfl))) (dw_or1 (DQ.dt (dq_notInS (u64 hr) (de_var (pv 6) rfl) (de_ownS (pv 3) rfl)))))) (ds_one (ds_ret (f := (fun a => (.inr a))) (de_c (T := yBl) (a := false) pe_bl (fun _ => rfl)) (fun _ => rfl))) (fun x => by cases x <;> rfl) (ds_ift (DQ.dt (dq_notInL (q_tup (q_C q_int (q_1 q_int))) (u65 hr) (lo rfl) (de_var (pv 4) rfl) (DE.fpL (de_mPF c_Plane_line (hr.mono (by decide)) passC (by decide +kernel) (de_var (pv 0) rfl) (dp_cons (de_var (pv 5) rfl) (dp_one (de_var (pv 6) rfl))) (wkN rfl))))) (ds_one (ds_ret (f := (fun a => (.inr a))) (de_c (T := yBl) (a := false) pe_bl (fun _ => rfl)) (fun _ => rfl))) (fun x => by cases x <;> rfl) (ds_cons (ρ1 := fun (c9 : (Int × Int)) => [some (.pl (yObj "Plane" ["board", "rising", "falling", "letters"] (tysL (tysL (tysL (tysL tys0 yCn) yStr) yStr) (yDic P w (kTup (ksC (kTup (ksC kInt (ks1 kInt))) (ks1 (kTup (ksC kInt (ks1 kInt)))))) yStr))) plane_p), some (.pl (yLst yCn) corners_p), some (.pl (yLst (yTup (tysC yCn (tysC yCn (tys1 yCn))))) entries_p), some (.ow (cSet P w) (s3 ++ [c9])), some (.pl yCn i2.1), some (.pl yCn i2.2.1), some (.pl yCn i2.2.2)]) (ds_sadd (u64 hr) (pv 3) rfl (de_var (pv 4) rfl)) (fun (c9 : (Int × Int)) => ds_nil (c := (.inl (s3 ++ [c9]))) (by first | exact .inl rfl | exact .inr rfl) (.keep (.keep (.keep (.keep (.drop (.drop (.drop .nil)))))))))))) (fun (s11 : (List (Int × Int))) => ds_one (ds_ret (f := (fun a => a)) (de_c (T := yBl) (a := true) pe_bl (fun _ => rfl)) (fun _ => rfl))) (fun x => by first | exact ⟨rfl, trivial⟩ | (cases x <;> exact ⟨rfl, trivial⟩)))) (by unfold m_is_derivation; simp only [bo, isIn_dec, andok, orok]), fun _ => .inl rfl⟩
def m_derivation_2 (plane_p : ((((Unit × (Int × Int)) × PySem.Str) × PySem.Str) × (List (((Int × Int) × (Int × Int)) × PySem.Str)))) (corners_p : (List (Int × Int))) : R Er (List ((Int × Int) × (Int × Int) × (Int × Int))) := (R.ok ([] : List ((Int × Int) × (Int × Int) × (Int × Int)))).bind fun (entries_1 : (List ((Int × Int) × (Int × Int) × (Int × Int)))) =>
  ((rSetC corners_p)).bind fun (known_2 : (List (Int × Int))) =>
  (R.ok ([] : List (Int × Int))).bind fun (held_3 : (List (Int × Int))) =>
  ((rSortC known_2)).bind fun (waiting_4 : (List (Int × Int))) =>
  (whileS (fun (s5 : ((List ((Int × Int) × (Int × Int) × (Int × Int))) × (List (Int × Int)) × (List (Int × Int)) × (List (Int × Int)))) => (R.ok (!List.isEmpty s5.2.2.2))) (fun (s5 : ((List ((Int × Int) × (Int × Int) × (Int × Int))) × (List (Int × Int)) × (List (Int × Int)) × (List (Int × Int)))) => ((rPopV s5.2.2.2)).bind fun (corner_6 : (Int × Int)) =>
  (forS (fun (other_7 : (Int × Int)) (s8 : ((List ((Int × Int) × (Int × Int) × (Int × Int))) × (List (Int × Int)) × (List (Int × Int)))) => (((m_Plane_line plane_p corner_6 other_7)).bind fun v17 => forS (fun (between_9 : (Int × Int)) (s10 : ((List ((Int × Int) × (Int × Int) × (Int × Int))) × (List (Int × Int)) × (List (Int × Int)))) => if (!memB between_9 s10.2.1) then (((rSadd s10.2.1 between_9)).bind fun (c12 : (Int × Int)) =>
  ((rApp s10.2.2 between_9)).bind fun (c14 : (Int × Int)) =>
  ((rApp s10.1 (between_9, corner_6, other_7))).bind fun (c16 : ((Int × Int) × (Int × Int) × (Int × Int))) =>
  R.ok ((s10.1 ++ [c16]), (s10.2.1 ++ [c12]), (s10.2.2 ++ [c14]))) else
  (R.ok (s10.1, s10.2.1, s10.2.2))) v17 (s8.1, s8.2.1, s8.2.2)).bind fun (s18 : ((List ((Int × Int) × (Int × Int) × (Int × Int))) × (List (Int × Int)) × (List (Int × Int)))) =>
  R.ok (s18.1, s18.2.1, s18.2.2)) s5.2.2.1 (s5.1, s5.2.1, (List.dropLast s5.2.2.2))).bind fun (s19 : ((List ((Int × Int) × (Int × Int) × (Int × Int))) × (List (Int × Int)) × (List (Int × Int)))) =>
  ((rApp s5.2.2.1 corner_6)).bind fun (c21 : (Int × Int)) =>
  R.ok (s19.1, s19.2.1, (s5.2.2.1 ++ [c21]), s19.2.2)) fuel (entries_1, known_2, held_3, waiting_4)).bind fun (s22 : ((List ((Int × Int) × (Int × Int) × (Int × Int))) × (List (Int × Int)) × (List (Int × Int)) × (List (Int × Int)))) =>
  R.ok s22.1
abbrev sp_derivation_2 (P : Program) (w : World) (K : PySem.W.Frag) : Sp := spD (K := K) EX (tysC (yObj "Plane" ["board", "rising", "falling", "letters"] (tysL (tysL (tysL (tysL tys0 yCn) yStr) yStr) (yDic P w (kTup (ksC (kTup (ksC kInt (ks1 kInt))) (ks1 (kTup (ksC kInt (ks1 kInt)))))) yStr))) (tys1 (yTupOf yCn))) (qF (K := K) (cLst (yTup (tysC yCn (tysC yCn (tys1 yCn)))))) (fun a => m_derivation_2 a.1 a.2)
theorem ok_derivation_2 {P : Program} {w : World} {K : PySem.W.Frag} {mg : Str → Option Value} {base : Heap} {f : Addr} {fd : FuncData} (F : FnP K "derivation" s_derivation f fd) (c_Plane_line : Met P w K mg base CX 4 "Plane" "line" ["self", "p", "q"] (sp_Plane_line P w K)) (oc : OC K) (bt : Bt mg) : FnOk P w K mg base CX 5 f fd ["plane", "corners"] (sp_derivation_2 P w K) := by
  refine fn_ok F sc_derivation (entC (ent1 rfl)) rfl fun cdv A outer s H E hr a => ?_
  obtain ⟨plane_p, corners_p⟩ := a
  have sc := sc_derivation
  exact ⟨_, fun c => .rt (qF (K := K) (cLst (yTup (tysC yCn (tysC yCn (tys1 yCn))))) c), DS.cast (m' := m_derivation_2 plane_p corners_p) (ds_cons (ρ1 := fun (entries_1 : (List ((Int × Int) × (Int × Int) × (Int × Int)))) => [some (.pl (yObj "Plane" ["board", "rising", "falling", "letters"] (tysL (tysL (tysL (tysL tys0 yCn) yStr) yStr) (yDic P w (kTup (ksC (kTup (ksC kInt (ks1 kInt))) (ks1 (kTup (ksC kInt (ks1 kInt)))))) yStr))) plane_p), some (.pl (yTupOf yCn) corners_p), some (.ow (cLst (yTup (tysC yCn (tysC yCn (tys1 yCn))))) entries_1), none, none, none, none, none, none]) (ds_setF (i := 2) sc.nd rfl (.inl rfl) (de_lst (T := (yTup (tysC yCn (tysC yCn (tys1 yCn))))) (dl_nil))) (fun (entries_1 : (List ((Int × Int) × (Int × Int) × (Int × Int)))) => ds_cons (ρ1 := fun (known_2 : (List (Int × Int))) => [some (.pl (yObj "Plane" ["board", "rising", "falling", "letters"] (tysL (tysL (tysL (tysL tys0 yCn) yStr) yStr) (yDic P w (kTup (ksC (kTup (ksC kInt (ks1 kInt))) (ks1 (kTup (ksC kInt (ks1 kInt)))))) yStr))) plane_p), some (.pl (yTupOf yCn) corners_p), some (.ow (cLst (yTup (tysC yCn (tysC yCn (tys1 yCn))))) entries_1), some (.ow (cSet P w) known_2), none, none, none, none, none]) (ds_setF (i := 3) sc.nd rfl (.inl rfl) (de_setT rfl (u64 hr) rfl bt.set (de_var (pv 1) rfl))) (fun (known_2 : (List (Int × Int))) => ds_cons (ρ1 := fun (held_3 : (List (Int × Int))) => [some (.pl (yObj "Plane" ["board", "rising", "falling", "letters"] (tysL (tysL (tysL (tysL tys0 yCn) yStr) yStr) (yDic P w (kTup (ksC (kTup (ksC kInt (ks1 kInt))) (ks1 (kTup (ksC kInt (ks1 kInt)))))) yStr))) plane_p), some (.pl (yTupOf yCn) corners_p), some (.ow (cLst (yTup (tysC yCn (tysC yCn (tys1 yCn))))) entries_1), some (.ow (cSet P w) known_2), some (.ow (cLst yCn) held_3), none, none, none, none]) (ds_setF (i := 4) sc.nd rfl (.inl rfl) (de_lst (T := yCn) (dl_nil))) (fun (held_3 : (List (Int × Int))) => ds_cons (ρ1 := fun (waiting_4 : (List (Int × Int))) => [some (.pl (yObj "Plane" ["board", "rising", "falling", "letters"] (tysL (tysL (tysL (tysL tys0 yCn) yStr) yStr) (yDic P w (kTup (ksC (kTup (ksC kInt (ks1 kInt))) (ks1 (kTup (ksC kInt (ks1 kInt)))))) yStr))) plane_p), some (.pl (yTupOf yCn) corners_p), some (.ow (cLst (yTup (tysC yCn (tysC yCn (tys1 yCn))))) entries_1), some (.ow (cSet P w) known_2), some (.ow (cLst yCn) held_3), some (.ow (cLst yCn) waiting_4), none, none, none]) (ds_setF (i := 5) sc.nd rfl (.inl rfl) (de_sortS rfl rfl bt.sorted (de_ownS (pv 3) rfl))) (fun (waiting_4 : (List (Int × Int))) => ds_cons (ρ1 := fun (s22 : ((List ((Int × Int) × (Int × Int) × (Int × Int))) × (List (Int × Int)) × (List (Int × Int)) × (List (Int × Int)))) => [some (.pl (yObj "Plane" ["board", "rising", "falling", "letters"] (tysL (tysL (tysL (tysL tys0 yCn) yStr) yStr) (yDic P w (kTup (ksC (kTup (ksC kInt (ks1 kInt))) (ks1 (kTup (ksC kInt (ks1 kInt)))))) yStr))) plane_p), none, some (.ow (cLst (yTup (tysC yCn (tysC yCn (tys1 yCn))))) s22.1), some (.ow (cSet P w) s22.2.1), some (.ow (cLst yCn) s22.2.2.1), some (.ow (cLst yCn) s22.2.2.2), none, none, none]) (ds_whileS (eH := fun (s5 : ((List ((Int × Int) × (Int × Int) × (Int × Int))) × (List (Int × Int)) × (List (Int × Int)) × (List (Int × Int)))) => [some (.pl (yObj "Plane" ["board", "rising", "falling", "letters"] (tysL (tysL (tysL (tysL tys0 yCn) yStr) yStr) (yDic P w (kTup (ksC (kTup (ksC kInt (ks1 kInt))) (ks1 (kTup (ksC kInt (ks1 kInt)))))) yStr))) plane_p), none, some (.ow (cLst (yTup (tysC yCn (tysC yCn (tys1 yCn))))) s5.1), some (.ow (cSet P w) s5.2.1), some (.ow (cLst yCn) s5.2.2.1), some (.ow (cLst yCn) s5.2.2.2), none, none, none]) (a0 := (entries_1, known_2, held_3, waiting_4)) fuel (passes_of rfl) (.keep (.drop (.keep (.keep (.keep (.keep (.keep (.keep (.keep .nil))))))))) (fun (s5 : ((List ((Int × Int) × (Int × Int) × (Int × Int))) × (List (Int × Int)) × (List (Int × Int)) × (List (Int × Int)))) => dt_lst (de_ownL (pv 5) rfl)) (fun (s5 : ((List ((Int × Int) × (Int × Int) × (Int × Int))) × (List (Int × Int)) × (List (Int × Int)) × (List (Int × Int)))) => ds_cons (ρ1 := fun (corner_6 : (Int × Int)) => [some (.pl (yObj "Plane" ["board", "rising", "falling", "letters"] (tysL (tysL (tysL (tysL tys0 yCn) yStr) yStr) (yDic P w (kTup (ksC (kTup (ksC kInt (ks1 kInt))) (ks1 (kTup (ksC kInt (ks1 kInt)))))) yStr))) plane_p), none, some (.ow (cLst (yTup (tysC yCn (tysC yCn (tys1 yCn))))) s5.1), some (.ow (cSet P w) s5.2.1), some (.ow (cLst yCn) s5.2.2.1), some (.ow (cLst yCn) (List.dropLast s5.2.2.2)), some (.pl yCn corner_6), none, none]) (ds_popSet (i := 5) (j := 6) sc.nd rfl (.inl rfl) (pv 5) rfl) (fun (corner_6 : (Int × Int)) => ds_cons (ρ1 := fun (s19 : ((List ((Int × Int) × (Int × Int) × (Int × Int))) × (List (Int × Int)) × (List (Int × Int)))) => [some (.pl (yObj "Plane" ["board", "rising", "falling", "letters"] (tysL (tysL (tysL (tysL tys0 yCn) yStr) yStr) (yDic P w (kTup (ksC (kTup (ksC kInt (ks1 kInt))) (ks1 (kTup (ksC kInt (ks1 kInt)))))) yStr))) plane_p), none, some (.ow (cLst (yTup (tysC yCn (tysC yCn (tys1 yCn))))) s19.1), some (.ow (cSet P w) s19.2.1), some (.ow (cLst yCn) s5.2.2.1), some (.ow (cLst yCn) s19.2.2), some (.pl yCn corner_6), none, none]) (ds_lend (i := 4) (T := yCn) rfl (nl_imm (imm_tup (imm_C imm_int (imm_1 imm_int)))) (fun p0 => ds_forS (eH := fun (s8 : ((List ((Int × Int) × (Int × Int) × (Int × Int))) × (List (Int × Int)) × (List (Int × Int)))) => [some (.pl (yObj "Plane" ["board", "rising", "falling", "letters"] (tysL (tysL (tysL (tysL tys0 yCn) yStr) yStr) (yDic P w (kTup (ksC (kTup (ksC kInt (ks1 kInt))) (ks1 (kTup (ksC kInt (ks1 kInt)))))) yStr))) plane_p), none, some (.ow (cLst (yTup (tysC yCn (tysC yCn (tys1 yCn))))) s8.1), some (.ow (cSet P w) s8.2.1), some (.pl (yLstA p0 yCn) s5.2.2.1), some (.ow (cLst yCn) s8.2.2), some (.pl yCn corner_6), none, none]) (eB := fun (s8 : ((List ((Int × Int) × (Int × Int) × (Int × Int))) × (List (Int × Int)) × (List (Int × Int)))) (other_7 : (Int × Int)) => [some (.pl (yObj "Plane" ["board", "rising", "falling", "letters"] (tysL (tysL (tysL (tysL tys0 yCn) yStr) yStr) (yDic P w (kTup (ksC (kTup (ksC kInt (ks1 kInt))) (ks1 (kTup (ksC kInt (ks1 kInt)))))) yStr))) plane_p), none, some (.ow (cLst (yTup (tysC yCn (tysC yCn (tys1 yCn))))) s8.1), some (.ow (cSet P w) s8.2.1), some (.pl (yLstA p0 yCn) s5.2.2.1), some (.ow (cLst yCn) s8.2.2), some (.pl yCn corner_6), some (.pl yCn other_7), none]) (a0 := (s5.1, s5.2.1, (List.dropLast s5.2.2.2))) (passes_of rfl) rfl (di_list (DE.as_ (U := (yLst yCn)) (f := fun a => a) (de_var (pv 4) rfl) lstA)) (.keep (.keep (.keep (.keep (.keep (.keep (.keep (.keep (.keep .nil))))))))) (fun (s8 : ((List ((Int × Int) × (Int × Int) × (Int × Int))) × (List (Int × Int)) × (List (Int × Int)))) => dg_name (pg_name (i := 7) sc.nd rfl (.inl rfl))) (fun (s8 : ((List ((Int × Int) × (Int × Int) × (Int × Int))) × (List (Int × Int)) × (List (Int × Int)))) (other_7 : (Int × Int)) => ds_cons (ρ1 := fun (s18 : ((List ((Int × Int) × (Int × Int) × (Int × Int))) × (List (Int × Int)) × (List (Int × Int)))) => [some (.pl (yObj "Plane" ["board", "rising", "falling", "letters"] (tysL (tysL (tysL (tysL tys0 yCn) yStr) yStr) (yDic P w (kTup (ksC (kTup (ksC kInt (ks1 kInt))) (ks1 (kTup (ksC kInt (ks1 kInt)))))) yStr))) plane_p), none, some (.ow (cLst (yTup (tysC yCn (tysC yCn (tys1 yCn))))) s18.1), some (.ow (cSet P w) s18.2.1), some (.pl (yLstA p0 yCn) s5.2.2.1), some (.ow (cLst yCn) s18.2.2), some (.pl yCn corner_6), some (.pl yCn other_7), none]) (ds_forS (eH := fun (s10 : ((List ((Int × Int) × (Int × Int) × (Int × Int))) × (List (Int × Int)) × (List (Int × Int)))) => [some (.pl (yObj "Plane" ["board", "rising", "falling", "letters"] (tysL (tysL (tysL (tysL tys0 yCn) yStr) yStr) (yDic P w (kTup (ksC (kTup (ksC kInt (ks1 kInt))) (ks1 (kTup (ksC kInt (ks1 kInt)))))) yStr))) plane_p), none, some (.ow (cLst (yTup (tysC yCn (tysC yCn (tys1 yCn))))) s10.1), some (.ow (cSet P w) s10.2.1), some (.pl (yLstA p0 yCn) s5.2.2.1), some (.ow (cLst yCn) s10.2.2), some (.pl yCn corner_6), some (.pl yCn other_7), none]) (eB := fun (s10 : ((List ((Int × Int) × (Int × Int) × (Int × Int))) × (List (Int × Int)) × (List (Int × Int)))) (between_9 : (Int × Int)) => [some (.pl (yObj "Plane" ["board", "rising", "falling", "letters"] (tysL (tysL (tysL (tysL tys0 yCn) yStr) yStr) (yDic P w (kTup (ksC (kTup (ksC kInt (ks1 kInt))) (ks1 (kTup (ksC kInt (ks1 kInt)))))) yStr))) plane_p), none, some (.ow (cLst (yTup (tysC yCn (tysC yCn (tys1 yCn))))) s10.1), some (.ow (cSet P w) s10.2.1), some (.pl (yLstA p0 yCn) s5.2.2.1), some (.ow (cLst yCn) s10.2.2), some (.pl yCn corner_6), some (.pl yCn other_7), some (.pl yCn between_9)]) (a0 := (s8.1, s8.2.1, s8.2.2)) (passes_of rfl) rfl (di_list (DE.fpL (de_mPF c_Plane_line (hr.mono (by decide)) passC (by decide +kernel) (de_var (pv 0) rfl) (dp_cons (de_var (pv 6) rfl) (dp_one (de_var (pv 7) rfl))) (wkN rfl)))) (.keep (.keep (.keep (.keep (.keep (.keep (.keep (.keep (.keep .nil))))))))) (fun (s10 : ((List ((Int × Int) × (Int × Int) × (Int × Int))) × (List (Int × Int)) × (List (Int × Int)))) => dg_name (pg_name (i := 8) sc.nd rfl (.inl rfl))) (fun (s10 : ((List ((Int × Int) × (Int × Int) × (Int × Int))) × (List (Int × Int)) × (List (Int × Int)))) (between_9 : (Int × Int)) => ds_one (ds_if1 (DQ.dt (dq_notInS (u64 hr) (de_var (pv 8) rfl) (de_ownS (pv 3) rfl))) (ds_cons (ρ1 := fun (c12 : (Int × Int)) => [some (.pl (yObj "Plane" ["board", "rising", "falling", "letters"] (tysL (tysL (tysL (tysL tys0 yCn) yStr) yStr) (yDic P w (kTup (ksC (kTup (ksC kInt (ks1 kInt))) (ks1 (kTup (ksC kInt (ks1 kInt)))))) yStr))) plane_p), none, some (.ow (cLst (yTup (tysC yCn (tysC yCn (tys1 yCn))))) s10.1), some (.ow (cSet P w) (s10.2.1 ++ [c12])), some (.pl (yLstA p0 yCn) s5.2.2.1), some (.ow (cLst yCn) s10.2.2), some (.pl yCn corner_6), some (.pl yCn other_7), some (.pl yCn between_9)]) (ds_sadd (u64 hr) (pv 3) rfl (de_var (pv 8) rfl)) (fun (c12 : (Int × Int)) => ds_cons (ρ1 := fun (c14 : (Int × Int)) => [some (.pl (yObj "Plane" ["board", "rising", "falling", "letters"] (tysL (tysL (tysL (tysL tys0 yCn) yStr) yStr) (yDic P w (kTup (ksC (kTup (ksC kInt (ks1 kInt))) (ks1 (kTup (ksC kInt (ks1 kInt)))))) yStr))) plane_p), none, some (.ow (cLst (yTup (tysC yCn (tysC yCn (tys1 yCn))))) s10.1), some (.ow (cSet P w) (s10.2.1 ++ [c12])), some (.pl (yLstA p0 yCn) s5.2.2.1), some (.ow (cLst yCn) (s10.2.2 ++ [c14])), some (.pl yCn corner_6), some (.pl yCn other_7), some (.pl yCn between_9)]) (ds_append (pv 5) rfl (de_var (pv 8) rfl)) (fun (c14 : (Int × Int)) => ds_cons (ρ1 := fun (c16 : ((Int × Int) × (Int × Int) × (Int × Int))) => [some (.pl (yObj "Plane" ["board", "rising", "falling", "letters"] (tysL (tysL (tysL (tysL tys0 yCn) yStr) yStr) (yDic P w (kTup (ksC (kTup (ksC kInt (ks1 kInt))) (ks1 (kTup (ksC kInt (ks1 kInt)))))) yStr))) plane_p), none, some (.ow (cLst (yTup (tysC yCn (tysC yCn (tys1 yCn))))) (s10.1 ++ [c16])), some (.ow (cSet P w) (s10.2.1 ++ [c12])), some (.pl (yLstA p0 yCn) s5.2.2.1), some (.ow (cLst yCn) (s10.2.2 ++ [c14])), some (.pl yCn corner_6), some (.pl yCn other_7), some (.pl yCn between_9)]) (ds_append (pv 2) rfl (de_tup (dp_cons (de_var (pv 8) rfl) (dp_cons (de_var (pv 6) rfl) (dp_one (de_var (pv 7) rfl)))))) (fun (c16 : ((Int × Int) × (Int × Int) × (Int × Int))) => ds_nil (c := ((s10.1 ++ [c16]), (s10.2.1 ++ [c12]), (s10.2.2 ++ [c14]))) (by first | exact .inl rfl | exact .inr rfl) (.keep (.keep (.keep (.keep (.keep (.keep (.keep (.keep (.drop .nil))))))))))))) (ds_nil (c := (s10.1, s10.2.1, s10.2.2)) (by first | exact .inl rfl | exact .inr rfl) (.keep (.keep (.keep (.keep (.keep (.keep (.keep (.keep (.drop .nil))))))))))))) (fun (s18 : ((List ((Int × Int) × (Int × Int) × (Int × Int))) × (List (Int × Int)) × (List (Int × Int)))) => ds_nil (c := (s18.1, s18.2.1, s18.2.2)) (by first | exact .inl rfl | exact .inr rfl) (.keep (.keep (.keep (.keep (.keep (.keep (.keep (.drop (.keep .nil)))))))))))) (fun _ _ => rfl) (fun p0 _ => (nls_c (nl_obj (nl_L (nl_L (nl_L (nl_L nl_0 (nl_imm (imm_tup (imm_C imm_int (imm_1 imm_int))))) (nl_imm imm_str)) (nl_imm imm_str)) (nl_dic (imm_tup (imm_C (imm_tup (imm_C imm_int (imm_1 imm_int))) (imm_1 (imm_tup (imm_C imm_int (imm_1 imm_int)))))) imm_str))) (nls_c trivial (nls_c (nlc_lst (nl_imm (imm_tup (imm_C (imm_tup (imm_C imm_int (imm_1 imm_int))) (imm_C (imm_tup (imm_C imm_int (imm_1 imm_int))) (imm_1 (imm_tup (imm_C imm_int (imm_1 imm_int))))))))) (nls_c nlc_set (nls_at (nla_c (nlc_lst (nl_imm (imm_tup (imm_C imm_int (imm_1 imm_int))))) (nla_c (nl_imm (imm_tup (imm_C imm_int (imm_1 imm_int)))) (nla_c trivial (nla_c trivial nla_nil)))))))))) (fun _ _ => rfl)) (fun (s19 : ((List ((Int × Int) × (Int × Int) × (Int × Int))) × (List (Int × Int)) × (List (Int × Int)))) => ds_cons (ρ1 := fun (c21 : (Int × Int)) => [some (.pl (yObj "Plane" ["board", "rising", "falling", "letters"] (tysL (tysL (tysL (tysL tys0 yCn) yStr) yStr) (yDic P w (kTup (ksC (kTup (ksC kInt (ks1 kInt))) (ks1 (kTup (ksC kInt (ks1 kInt)))))) yStr))) plane_p), none, some (.ow (cLst (yTup (tysC yCn (tysC yCn (tys1 yCn))))) s19.1), some (.ow (cSet P w) s19.2.1), some (.ow (cLst yCn) (s5.2.2.1 ++ [c21])), some (.ow (cLst yCn) s19.2.2), some (.pl yCn corner_6), none, none]) (ds_append (pv 4) rfl (de_var (pv 6) rfl)) (fun (c21 : (Int × Int)) => ds_nil (c := (s19.1, s19.2.1, (s5.2.2.1 ++ [c21]), s19.2.2)) (by first | exact .inl rfl | exact .inr rfl) (.keep (.keep (.keep (.keep (.keep (.keep (.drop (.keep (.keep .nil)))))))))))))) (fun (s22 : ((List ((Int × Int) × (Int × Int) × (Int × Int))) × (List (Int × Int)) × (List (Int × Int)) × (List (Int × Int)))) => ds_one (ds_retO (c := s22.1) (pv 2) rfl rfl))))))) (by unfold m_derivation_2; simp only [bo, isIn_dec, andok, orok]), fun _ => .inl rfl⟩
def m_closes (plane_p : ((((Unit × (Int × Int)) × PySem.Str) × PySem.Str) × (List (((Int × Int) × (Int × Int)) × PySem.Str)))) (table_p : (List (((Int × Int) × (Int × Int)) × PySem.Str))) (corners_p : (List (Int × Int))) (closed_p : (List (Int × Int))) : R Er Bool := (R.ok corners_p).bind fun (handed_1 : (List (Int × Int))) =>
  ((m_closure_own plane_p handed_1)).bind fun (told_2 : (List (Int × Int))) =>
  (((m_is_row told_2 closed_p)).bind fun v3 => R.ok (!v3)).bind fun v26 => if v26 then (R.ok false) else
  (((rApp told_2 ((0 : Int), (0 : Int)))).bind fun (c5 : (Int × Int)) =>
  ((((((m_closure_own plane_p handed_1)).bind fun v6 => R.ok (v6, closed_p)).bind fun v7 => (m_is_row v7.1 v7.2)).bind fun v8 => R.ok (!v8)).bind fun v9 => (if v9 then R.ok true else (R.ok (!decide (handed_1 = corners_p))))).bind fun v25 => if v25 then (R.ok false) else
  (((m_derivation plane_p handed_1)).bind fun (told_10 : (List ((Int × Int) × (Int × Int) × (Int × Int)))) =>
  ((((m_is_right_derivation table_p corners_p closed_p told_10)).bind fun v11 => R.ok (!v11)).bind fun v12 => (if v12 then R.ok true else (R.ok (!decide (handed_1 = corners_p))))).bind fun v24 => if v24 then (R.ok false) else
  ((((m_is_derivation plane_p handed_1 told_10)).bind fun v13 => R.ok (!decide (v13 = true))).bind fun v23 => if v23 then (R.ok false) else
  ((R.ok told_10).bind fun (kept_14 : (List ((Int × Int) × (Int × Int) × (Int × Int)))) =>
  ((rRoom told_10)).bind fun (_ : Unit) =>
  (((m_derivation plane_p corners_p)).bind fun v16 => R.ok (!decide (v16 = kept_14))).bind fun v22 => if v22 then (R.ok false) else
  (((((((m_derivation_2 plane_p corners_p)).bind fun v17 => R.ok (closed_p, v17)).bind fun v18 => R.ok (corners_p, v18)).bind fun v19 => R.ok (table_p, v19)).bind fun v20 => (m_is_right_derivation v20.1 v20.2.1 v20.2.2.1 v20.2.2.2)).bind fun v21 => R.ok v21)))))
abbrev sp_closes (P : Program) (w : World) (K : PySem.W.Frag) : Sp := spD (K := K) EX (tysC (yObj "Plane" ["board", "rising", "falling", "letters"] (tysL (tysL (tysL (tysL tys0 yCn) yStr) yStr) (yDic P w (kTup (ksC (kTup (ksC kInt (ks1 kInt))) (ks1 (kTup (ksC kInt (ks1 kInt)))))) yStr))) (tysC (yDic P w (kTup (ksC (kTup (ksC kInt (ks1 kInt))) (ks1 (kTup (ksC kInt (ks1 kInt)))))) yStr) (tysC (yLst yCn) (tys1 (yLst yCn))))) (qP (K := K) yBl) (fun a => m_closes a.1 a.2.1 a.2.2.1 a.2.2.2)
theorem sc_closes : FnScope ["_law_plane", "_law_table", "_law_corners", "_law_closed", "_law_handed", "_law_told", "_law_kept"] ["_law_plane", "_law_table", "_law_corners", "_law_closed"] (defScope s_closes) := ⟨rfl, rfl, rfl, by decide +kernel, rfl, by decide +kernel, by decide +kernel⟩
theorem ok_closes {P : Program} {w : World} {K : PySem.W.Frag} {mg : Str → Option Value} {base : Heap} {f : Addr} {fd : FuncData} (F : FnP K "_law_closes" s_closes f fd) (c_closure_own : Cal P w K mg base CX 6 "closure" ["plane", "corners"] (sp_closure_own P w K)) (c_is_row : Cal P w K mg base CX 3 "_law_is_row" ["_law_told", "_law_wanted"] (sp_is_row P w K)) (c_derivation : Cal P w K mg base CX 5 "derivation" ["plane", "corners"] (sp_derivation P w K)) (c_is_right_derivation : Cal P w K mg base CX 4 "_law_is_right_derivation" ["_law_table", "_law_corners", "_law_closed", "_law_told"] (sp_is_right_derivation P w K)) (c_is_derivation : Cal P w K mg base CX 5 "is_derivation" ["plane", "corners", "entries"] (sp_is_derivation P w K)) (c_derivation_2 : Cal P w K mg base CX 5 "derivation" ["plane", "corners"] (sp_derivation_2 P w K)) (oc : OC K) (bt : Bt mg) : FnOk P w K mg base CX 7 f fd ["_law_plane", "_law_table", "_law_corners", "_law_closed"] (sp_closes P w K) := by
  refine fn_ok F sc_closes (entC (entC (entC (ent1 rfl)))) rfl fun cdv A outer s H E hr a => ?_
  obtain ⟨plane_p, table_p, corners_p, closed_p⟩ := a
  have sc := sc_closes
  exact ⟨_, fun c => .rt (qP (K := K) yBl c), DS.cast (m' := m_closes plane_p table_p corners_p closed_p) (ds_cons (ρ1 := fun (handed_1 : (List (Int × Int))) => [some (.pl (yObj "Plane" ["board", "rising", "falling", "letters"] (tysL (tysL (tysL (tysL tys0 yCn) yStr) yStr) (yDic P w (kTup (ksC (kTup (ksC kInt (ks1 kInt))) (ks1 (kTup (ksC kInt (ks1 kInt)))))) yStr))) plane_p), some (.pl (yDic P w (kTup (ksC (kTup (ksC kInt (ks1 kInt))) (ks1 (kTup (ksC kInt (ks1 kInt)))))) yStr) table_p), some (.pl (yLst yCn) corners_p), some (.pl (yLst yCn) closed_p), some (.ow (cLst yCn) handed_1), none, none]) (ds_setF (i := 4) sc.nd rfl (.inl rfl) (de_list1 sq_lst (imm_tup (imm_C imm_int (imm_1 imm_int))) rfl bt.list (de_var (pv 2) rfl))) (fun (handed_1 : (List (Int × Int))) => ds_cons (ρ1 := fun (told_2 : (List (Int × Int))) => [some (.pl (yObj "Plane" ["board", "rising", "falling", "letters"] (tysL (tysL (tysL (tysL tys0 yCn) yStr) yStr) (yDic P w (kTup (ksC (kTup (ksC kInt (ks1 kInt))) (ks1 (kTup (ksC kInt (ks1 kInt)))))) yStr))) plane_p), some (.pl (yDic P w (kTup (ksC (kTup (ksC kInt (ks1 kInt))) (ks1 (kTup (ksC kInt (ks1 kInt)))))) yStr) table_p), some (.pl (yLst yCn) corners_p), some (.pl (yLst yCn) closed_p), some (.ow (cLst yCn) handed_1), some (.ow (cLst yCn) told_2), none]) (ds_setF (i := 5) sc.nd rfl (.inl rfl) (de_callF c_closure_own.ok (hr.mono (by decide)) rfl c_closure_own.mg c_closure_own.kp c_closure_own.bd passC (da_cons (de_var (pv 0) rfl) (da_one (de_ownL (pv 4) rfl))) (imm_cLst (imm_tup (imm_C imm_int (imm_1 imm_int)))) (wkN rfl))) (fun (told_2 : (List (Int × Int))) => ds_ift (dt_not (dt_val (de_call c_is_row.ok (hr.mono (by decide)) rfl c_is_row.mg c_is_row.kp c_is_row.bd passC (da_cons (de_ownL (pv 5) rfl) (da_one (de_var (pv 3) rfl))) imm_bl (wkN rfl)))) (ds_one (ds_ret (f := (fun a => a)) (de_c (T := yBl) (a := false) pe_bl (fun _ => rfl)) (fun _ => rfl))) (fun _ => rfl) (ds_cons (ρ1 := fun (c5 : (Int × Int)) => [some (.pl (yObj "Plane" ["board", "rising", "falling", "letters"] (tysL (tysL (tysL (tysL tys0 yCn) yStr) yStr) (yDic P w (kTup (ksC (kTup (ksC kInt (ks1 kInt))) (ks1 (kTup (ksC kInt (ks1 kInt)))))) yStr))) plane_p), some (.pl (yDic P w (kTup (ksC (kTup (ksC kInt (ks1 kInt))) (ks1 (kTup (ksC kInt (ks1 kInt)))))) yStr) table_p), some (.pl (yLst yCn) corners_p), some (.pl (yLst yCn) closed_p), some (.ow (cLst yCn) handed_1), some (.ow (cLst yCn) (told_2 ++ [c5])), none]) (ds_append (pv 5) rfl (de_tup (dp_cons (de_c (T := yInt) (a := (0 : Int)) pe_int (fun _ => rfl)) (dp_one (de_c (T := yInt) (a := (0 : Int)) pe_int (fun _ => rfl)))))) (fun (c5 : (Int × Int)) => ds_ift (DW.dt (dw_or (dt_not (dt_val (de_call c_is_row.ok (hr.mono (by decide)) rfl c_is_row.mg c_is_row.kp c_is_row.bd passC (da_cons (DE.fpL (de_callF c_closure_own.ok (hr.mono (by decide)) rfl c_closure_own.mg c_closure_own.kp c_closure_own.bd passC (da_cons (de_var (pv 0) rfl) (da_one (de_ownL (pv 4) rfl))) (imm_cLst (imm_tup (imm_C imm_int (imm_1 imm_int)))) (wkN rfl))) (da_one (de_var (pv 3) rfl))) imm_bl (wkN rfl)))) (dw_or1 (DQ.dt (dq_ne (q_lst (q_tup (q_C q_int (q_1 q_int)))) (u64 hr) (lo rfl) (lo rfl) (de_ownL (pv 4) rfl) (de_var (pv 2) rfl)))))) (ds_one (ds_ret (f := (fun a => a)) (de_c (T := yBl) (a := false) pe_bl (fun _ => rfl)) (fun _ => rfl))) (fun _ => rfl) (ds_cons (ρ1 := fun (told_10 : (List ((Int × Int) × (Int × Int) × (Int × Int)))) => [some (.pl (yObj "Plane" ["board", "rising", "falling", "letters"] (tysL (tysL (tysL (tysL tys0 yCn) yStr) yStr) (yDic P w (kTup (ksC (kTup (ksC kInt (ks1 kInt))) (ks1 (kTup (ksC kInt (ks1 kInt)))))) yStr))) plane_p), some (.pl (yDic P w (kTup (ksC (kTup (ksC kInt (ks1 kInt))) (ks1 (kTup (ksC kInt (ks1 kInt)))))) yStr) table_p), some (.pl (yLst yCn) corners_p), some (.pl (yLst yCn) closed_p), some (.ow (cLst yCn) handed_1), some (.ow (cLst (yTup (tysC yCn (tysC yCn (tys1 yCn))))) told_10), none]) (ds_setF (i := 5) sc.nd rfl (.inl rfl) (de_callF c_derivation.ok (hr.mono (by decide)) rfl c_derivation.mg c_derivation.kp c_derivation.bd passC (da_cons (de_var (pv 0) rfl) (da_one (de_ownL (pv 4) rfl))) (imm_cLst (imm_tup (imm_C (imm_tup (imm_C imm_int (imm_1 imm_int))) (imm_C (imm_tup (imm_C imm_int (imm_1 imm_int))) (imm_1 (imm_tup (imm_C imm_int (imm_1 imm_int)))))))) (wkN rfl))) (fun (told_10 : (List ((Int × Int) × (Int × Int) × (Int × Int)))) => ds_ift (DW.dt (dw_or (dt_not (dt_val (de_call c_is_right_derivation.ok (hr.mono (by decide)) rfl c_is_right_derivation.mg c_is_right_derivation.kp c_is_right_derivation.bd passC (da_cons (de_var (pv 1) rfl) (da_cons (de_var (pv 2) rfl) (da_cons (de_var (pv 3) rfl) (da_one (de_ownL (pv 5) rfl))))) imm_bl (wkN rfl)))) (dw_or1 (DQ.dt (dq_ne (q_lst (q_tup (q_C q_int (q_1 q_int)))) (u64 hr) (lo rfl) (lo rfl) (de_ownL (pv 4) rfl) (de_var (pv 2) rfl)))))) (ds_one (ds_ret (f := (fun a => a)) (de_c (T := yBl) (a := false) pe_bl (fun _ => rfl)) (fun _ => rfl))) (fun _ => rfl) (ds_ift (DQ.dt (dq_notB (de_call c_is_derivation.ok (hr.mono (by decide)) rfl c_is_derivation.mg c_is_derivation.kp c_is_derivation.bd passC (da_cons (de_var (pv 0) rfl) (da_cons (de_ownL (pv 4) rfl) (da_one (de_ownL (pv 5) rfl)))) imm_bl (wkN rfl)) (de_c (T := yBl) (a := true) pe_bl (fun _ => rfl)))) (ds_one (ds_ret (f := (fun a => a)) (de_c (T := yBl) (a := false) pe_bl (fun _ => rfl)) (fun _ => rfl))) (fun _ => rfl) (ds_cons (ρ1 := fun (kept_14 : (List ((Int × Int) × (Int × Int) × (Int × Int)))) => [some (.pl (yObj "Plane" ["board", "rising", "falling", "letters"] (tysL (tysL (tysL (tysL tys0 yCn) yStr) yStr) (yDic P w (kTup (ksC (kTup (ksC kInt (ks1 kInt))) (ks1 (kTup (ksC kInt (ks1 kInt)))))) yStr))) plane_p), some (.pl (yDic P w (kTup (ksC (kTup (ksC kInt (ks1 kInt))) (ks1 (kTup (ksC kInt (ks1 kInt)))))) yStr) table_p), some (.pl (yLst yCn) corners_p), some (.pl (yLst yCn) closed_p), some (.ow (cLst yCn) handed_1), some (.ow (cLst (yTup (tysC yCn (tysC yCn (tys1 yCn))))) told_10), some (.ow (cLst (yTup (tysC yCn (tysC yCn (tys1 yCn))))) kept_14)]) (ds_setF (i := 6) sc.nd rfl (.inl rfl) (de_list1 sq_lst (imm_tup (imm_C (imm_tup (imm_C imm_int (imm_1 imm_int))) (imm_C (imm_tup (imm_C imm_int (imm_1 imm_int))) (imm_1 (imm_tup (imm_C imm_int (imm_1 imm_int))))))) rfl bt.list (de_ownL (pv 5) rfl))) (fun (kept_14 : (List ((Int × Int) × (Int × Int) × (Int × Int)))) => ds_cons (ρ1 := fun (_ : Unit) => [some (.pl (yObj "Plane" ["board", "rising", "falling", "letters"] (tysL (tysL (tysL (tysL tys0 yCn) yStr) yStr) (yDic P w (kTup (ksC (kTup (ksC kInt (ks1 kInt))) (ks1 (kTup (ksC kInt (ks1 kInt)))))) yStr))) plane_p), some (.pl (yDic P w (kTup (ksC (kTup (ksC kInt (ks1 kInt))) (ks1 (kTup (ksC kInt (ks1 kInt)))))) yStr) table_p), some (.pl (yLst yCn) corners_p), some (.pl (yLst yCn) closed_p), some (.ow (cLst yCn) handed_1), none, some (.ow (cLst (yTup (tysC yCn (tysC yCn (tys1 yCn))))) kept_14)]) (ds_appDrop (pv 5) rfl (de_c (T := yInt) (a := (0 : Int)) pe_int (fun _ => rfl))) (fun (_ : Unit) => ds_ift (DQ.dt (dq_ne (q_lst (q_tup (q_C (q_tup (q_C q_int (q_1 q_int))) (q_C (q_tup (q_C q_int (q_1 q_int))) (q_1 (q_tup (q_C q_int (q_1 q_int)))))))) (u64 hr) (lo rfl) (lo rfl) (DE.fpL (de_callF c_derivation.ok (hr.mono (by decide)) rfl c_derivation.mg c_derivation.kp c_derivation.bd passC (da_cons (de_var (pv 0) rfl) (da_one (DE.fpL (de_list1 sq_lst (imm_tup (imm_C imm_int (imm_1 imm_int))) rfl bt.list (de_var (pv 2) rfl))))) (imm_cLst (imm_tup (imm_C (imm_tup (imm_C imm_int (imm_1 imm_int))) (imm_C (imm_tup (imm_C imm_int (imm_1 imm_int))) (imm_1 (imm_tup (imm_C imm_int (imm_1 imm_int)))))))) (wkN rfl))) (de_ownL (pv 6) rfl))) (ds_one (ds_ret (f := (fun a => a)) (de_c (T := yBl) (a := false) pe_bl (fun _ => rfl)) (fun _ => rfl))) (fun _ => rfl) (ds_one (ds_ret (f := (fun a => a)) (de_call c_is_right_derivation.ok (hr.mono (by decide)) rfl c_is_right_derivation.mg c_is_right_derivation.kp c_is_right_derivation.bd passC (da_cons (de_var (pv 1) rfl) (da_cons (de_var (pv 2) rfl) (da_cons (de_var (pv 3) rfl) (da_one (DE.fpL (de_callF c_derivation_2.ok (hr.mono (by decide)) rfl c_derivation_2.mg c_derivation_2.kp c_derivation_2.bd passC (da_cons (de_var (pv 0) rfl) (da_one (de_tupleL (imm_tup (imm_C imm_int (imm_1 imm_int))) rfl bt.tuple (de_var (pv 2) rfl)))) (imm_cLst (imm_tup (imm_C (imm_tup (imm_C imm_int (imm_1 imm_int))) (imm_C (imm_tup (imm_C imm_int (imm_1 imm_int))) (imm_1 (imm_tup (imm_C imm_int (imm_1 imm_int)))))))) (wkN rfl))))))) imm_bl (wkN rfl)) (fun _ => rfl)))))))))))))) (by unfold m_closes; simp only [bo, isIn_dec, andok, orok]), fun _ => .inl rfl⟩
def m_all_corners (board_here_p : (Int × Int)) : R Er (List (Int × Int)) := (R.ok ([] : List (Int × Int))).bind fun (found_1 : (List (Int × Int))) =>
  (((rRng 0 (board_here_p.1 + (1 : Int)))).bind fun v10 => forS (fun (x_2 : Int) (s3 : (List (Int × Int))) => (((rRng 0 (board_here_p.2 + (1 : Int)))).bind fun v8 => forS (fun (y_4 : Int) (s5 : (List (Int × Int))) => ((rApp s5 (x_2, y_4))).bind fun (c7 : (Int × Int)) =>
  R.ok (s5 ++ [c7])) v8 s3).bind fun (s9 : (List (Int × Int))) =>
  R.ok s9) v10 found_1).bind fun (s11 : (List (Int × Int))) =>
  R.ok s11
abbrev sp_all_corners (P : Program) (w : World) (K : PySem.W.Frag) : Sp := spD (K := K) EX (tys1 yCn) (qF (K := K) (cLst yCn)) (fun a => m_all_corners a)
theorem sc_all_corners : FnScope ["_law_board_here", "_law_found", "_law_x", "_law_y"] ["_law_board_here"] (defScope s_all_corners) := ⟨rfl, rfl, rfl, by decide +kernel, rfl, by decide +kernel, by decide +kernel⟩
theorem ok_all_corners {P : Program} {w : World} {K : PySem.W.Frag} {mg : Str → Option Value} {base : Heap} {f : Addr} {fd : FuncData} (F : FnP K "_law_all_corners" s_all_corners f fd) (oc : OC K) (bt : Bt mg) : FnOk P w K mg base CX 1 f fd ["_law_board_here"] (sp_all_corners P w K) := by
  refine fn_ok F sc_all_corners (ent1 rfl) rfl fun cdv A outer s H E hr board_here_p => ?_
  have sc := sc_all_corners
  exact ⟨_, fun c => .rt (qF (K := K) (cLst yCn) c), DS.cast (m' := m_all_corners board_here_p) (ds_cons (ρ1 := fun (found_1 : (List (Int × Int))) => [some (.pl yCn board_here_p), some (.ow (cLst yCn) found_1), none, none]) (ds_setF (i := 1) sc.nd rfl (.inl rfl) (de_lst (T := yCn) (dl_nil))) (fun (found_1 : (List (Int × Int))) => ds_cons (ρ1 := fun (s11 : (List (Int × Int))) => [some (.pl yCn board_here_p), some (.ow (cLst yCn) s11), none, none]) (ds_forS (eH := fun (s3 : (List (Int × Int))) => [some (.pl yCn board_here_p), some (.ow (cLst yCn) s3), none, none]) (eB := fun (s3 : (List (Int × Int))) (x_2 : Int) => [some (.pl yCn board_here_p), some (.ow (cLst yCn) s3), some (.pl yInt x_2), none]) (a0 := found_1) (passes_of rfl) rfl (di_range1 (by rfl) bt.range (de_add (de_nth (de_var (pv 0) rfl) nth_0) (de_c (T := yInt) (a := (1 : Int)) pe_int (fun _ => rfl)))) (.keep (.keep (.keep (.keep .nil)))) (fun (s3 : (List (Int × Int))) => dg_name (pg_name (i := 2) sc.nd rfl (.inl rfl))) (fun (s3 : (List (Int × Int))) (x_2 : Int) => ds_cons (ρ1 := fun (s9 : (List (Int × Int))) => [some (.pl yCn board_here_p), some (.ow (cLst yCn) s9), some (.pl yInt x_2), none]) (ds_forS (eH := fun (s5 : (List (Int × Int))) => [some (.pl yCn board_here_p), some (.ow (cLst yCn) s5), some (.pl yInt x_2), none]) (eB := fun (s5 : (List (Int × Int))) (y_4 : Int) => [some (.pl yCn board_here_p), some (.ow (cLst yCn) s5), some (.pl yInt x_2), some (.pl yInt y_4)]) (a0 := s3) (passes_of rfl) rfl (di_range1 (by rfl) bt.range (de_add (de_nth (de_var (pv 0) rfl) (nth_s nth_1)) (de_c (T := yInt) (a := (1 : Int)) pe_int (fun _ => rfl)))) (.keep (.keep (.keep (.keep .nil)))) (fun (s5 : (List (Int × Int))) => dg_name (pg_name (i := 3) sc.nd rfl (.inl rfl))) (fun (s5 : (List (Int × Int))) (y_4 : Int) => ds_cons (ρ1 := fun (c7 : (Int × Int)) => [some (.pl yCn board_here_p), some (.ow (cLst yCn) (s5 ++ [c7])), some (.pl yInt x_2), some (.pl yInt y_4)]) (ds_append (pv 1) rfl (de_tup (dp_cons (de_var (pv 2) rfl) (dp_one (de_var (pv 3) rfl))))) (fun (c7 : (Int × Int)) => ds_nil (c := (s5 ++ [c7])) (by first | exact .inl rfl | exact .inr rfl) (.keep (.keep (.keep (.drop .nil))))))) (fun (s9 : (List (Int × Int))) => ds_nil (c := s9) (by first | exact .inl rfl | exact .inr rfl) (.keep (.keep (.drop (.keep .nil))))))) (fun (s11 : (List (Int × Int))) => ds_one (ds_retO (c := s11) (pv 1) rfl rfl)))) (by unfold m_all_corners; simp only [bo, isIn_dec, andok, orok]), fun _ => .inl rfl⟩
def m_without_doubles (board_here_p : (Int × Int)) (corners_p : (List (Int × Int))) : R Er (List (Int × Int)) := (((m_all_corners board_here_p)).bind fun v2 => (lcR (fun (corner_1 : (Int × Int)) => (R.ok (memB corner_1 corners_p))) (fun (corner_1 : (Int × Int)) => (R.ok corner_1)) v2)).bind fun v3 => R.ok v3
abbrev sp_without_doubles (P : Program) (w : World) (K : PySem.W.Frag) : Sp := spD (K := K) EX (tysC yCn (tys1 (yLst yCn))) (qF (K := K) (cLst yCn)) (fun a => m_without_doubles a.1 a.2)
theorem sc_without_doubles : FnScope ["_law_board_here", "_law_corners", "_law_corner"] ["_law_board_here", "_law_corners"] (defScope s_without_doubles) := ⟨rfl, rfl, rfl, by decide +kernel, rfl, by decide +kernel, by decide +kernel⟩
theorem ok_without_doubles {P : Program} {w : World} {K : PySem.W.Frag} {mg : Str → Option Value} {base : Heap} {f : Addr} {fd : FuncData} (F : FnP K "_law_without_doubles" s_without_doubles f fd) (c_all_corners : Cal P w K mg base CX 1 "_law_all_corners" ["_law_board_here"] (sp_all_corners P w K)) (oc : OC K) (bt : Bt mg) : FnOk P w K mg base CX 2 f fd ["_law_board_here", "_law_corners"] (sp_without_doubles P w K) := by
  refine fn_ok F sc_without_doubles (entC (ent1 rfl)) rfl fun cdv A outer s H E hr a => ?_
  obtain ⟨board_here_p, corners_p⟩ := a
  have sc := sc_without_doubles
  exact ⟨_, fun c => .rt (qF (K := K) (cLst yCn) c), DS.cast (m' := m_without_doubles board_here_p corners_p) (ds_one (ds_retF (f := (fun a => a)) (de_lc (own := [("_law_corner", 2)]) (ρ' := fun (corner_1 : (Int × Int)) => [some (.pl yCn board_here_p), some (.pl (yLst yCn) corners_p), some (.pl yCn corner_1)]) (U := yCn) rfl sc.nd (DI.c (di_list (DE.fpL (de_callF c_all_corners.ok (hr.mono (by decide)) rfl c_all_corners.mg c_all_corners.kp c_all_corners.bd passC (da_one (de_var (pv 0) rfl)) (imm_cLst (imm_tup (imm_C imm_int (imm_1 imm_int)))) (wkN rfl))))) (blkOk_by (N := ["_law_board_here", "_law_corners", "_law_corner"]) (sc := defScope s_without_doubles) (by decide +kernel)) (fun _ _ _ _ _ => dgc (dg_name (pg_name (i := 2) sc.nd rfl (by first | exact .inl rfl | exact .inr rfl))) (by first | rfl | (dsimp only [Blk, Cx.blk, cxOf]; try rfl))) (by decide) (fun _ _ _ _ _ (corner_1 : (Int × Int)) => dtc (dts_one (DQ.dt (dq_inL (q_tup (q_C q_int (q_1 q_int))) (u65 hr) (lo rfl) (de_var (pv 2) rfl) (de_var (pv 1) rfl)))) (by first | rfl | (dsimp only [Blk, Cx.blk, cxOf]; try rfl))) (fun _ _ _ _ _ (corner_1 : (Int × Int)) => dec (de_var (pv 2) rfl) (by first | rfl | (dsimp only [Blk, Cx.blk, cxOf]; try rfl)))) (fun _ => rfl))) (by unfold m_without_doubles; simp only [bo, isIn_dec, andok, orok]), fun _ => .inl rfl⟩
def m_open_pair (plane_p : ((((Unit × (Int × Int)) × PySem.Str) × PySem.Str) × (List (((Int × Int) × (Int × Int)) × PySem.Str)))) (corners_p : (List (Int × Int))) : R Er (Option ((Int × Int) × (Int × Int) × (Int × Int))) := ((rSetC corners_p)).bind fun (known_1 : (List (Int × Int))) =>
  ((rSortC known_1)).bind fun (ordered_2 : (List (Int × Int))) =>
  R.seqX (((rRng 0 (List.length ordered_2 : Int))).bind fun v17 => forX (fun (k_3 : Int) (s4 : Unit) => R.seqX (forX (fun (other_5 : (Int × Int)) (s6 : Unit) => R.seqX (((((rIx ordered_2 k_3)).bind fun v7 => R.ok (v7, other_5)).bind fun v8 => (m_Plane_line plane_p v8.1 v8.2)).bind fun v14 => forX (fun (corner_9 : (Int × Int)) (s10 : Unit) => if (!memB corner_9 known_1) then (((((rIx ordered_2 k_3)).bind fun v11 => R.ok (v11, other_5, corner_9)).bind fun v12 => R.ok (some v12)).bind fun v13 => R.ok (.inr v13)) else
  (R.ok (.inl ()))) v14 ()) (fun (a : (Option ((Int × Int) × (Int × Int) × (Int × Int)))) => (Sum.inr a : _ ⊕ (Option ((Int × Int) × (Int × Int) × (Int × Int))))) fun (s15 : Unit) =>
  R.ok (.inl ())) (cut ordered_2 (some (k_3 + (1 : Int))) none) ()) (fun (a : (Option ((Int × Int) × (Int × Int) × (Int × Int)))) => (Sum.inr a : _ ⊕ (Option ((Int × Int) × (Int × Int) × (Int × Int))))) fun (s16 : Unit) =>
  R.ok (.inl ())) v17 ()) (fun a => a) fun (s18 : Unit) =>
  R.ok (none : (Option ((Int × Int) × (Int × Int) × (Int × Int))))
abbrev sp_open_pair (P : Program) (w : World) (K : PySem.W.Frag) : Sp := spD (K := K) EX (tysC (yObj "Plane" ["board", "rising", "falling", "letters"] (tysL (tysL (tysL (tysL tys0 yCn) yStr) yStr) (yDic P w (kTup (ksC (kTup (ksC kInt (ks1 kInt))) (ks1 (kTup (ksC kInt (ks1 kInt)))))) yStr))) (tys1 (yLst yCn))) (qP (K := K) (yOpt (yTup (tysC yCn (tysC yCn (tys1 yCn)))))) (fun a => m_open_pair a.1 a.2)
theorem sc_open_pair : FnScope ["plane", "corners", "known", "ordered", "k", "other", "corner"] ["plane", "corners"] (defScope s_open_pair) := ⟨rfl, rfl, rfl, by decide +kernel, rfl, by decide +kernel, by decide +kernel⟩
theorem ok_open_pair {P : Program} {w : World} {K : PySem.W.Frag} {mg : Str → Option Value} {base : Heap} {f : Addr} {fd : FuncData} (F : FnP K "open_pair" s_open_pair f fd) (c_Plane_line : Met P w K mg base CX 4 "Plane" "line" ["self", "p", "q"] (sp_Plane_line P w K)) (oc : OC K) (bt : Bt mg) : FnOk P w K mg base CX 5 f fd ["plane", "corners"] (sp_open_pair P w K) := by
  refine fn_ok F sc_open_pair (entC (ent1 rfl)) rfl fun cdv A outer s H E hr a => ?_
  obtain ⟨plane_p, corners_p⟩ := a
  have sc := sc_open_pair
  exact ⟨_, fun c => .rt (qP (K := K) (yOpt (yTup (tysC yCn (tysC yCn (tys1 yCn))))) c), DS.cast (m' := m_open_pair plane_p corners_p) (ds_cons (ρ1 := fun (known_1 : (List (Int × Int))) => [some (.pl (yObj "Plane" ["board", "rising", "falling", "letters"] (tysL (tysL (tysL (tysL tys0 yCn) yStr) yStr) (yDic P w (kTup (ksC (kTup (ksC kInt (ks1 kInt))) (ks1 (kTup (ksC kInt (ks1 kInt)))))) yStr))) plane_p), some (.pl (yLst yCn) corners_p), some (.ow (cSet P w) known_1), none, none, none, none]) (ds_setF (i := 2) sc.nd rfl (.inl rfl) (de_setL rfl (u64 hr) rfl bt.set (de_var (pv 1) rfl))) (fun (known_1 : (List (Int × Int))) => ds_cons (ρ1 := fun (ordered_2 : (List (Int × Int))) => [some (.pl (yObj "Plane" ["board", "rising", "falling", "letters"] (tysL (tysL (tysL (tysL tys0 yCn) yStr) yStr) (yDic P w (kTup (ksC (kTup (ksC kInt (ks1 kInt))) (ks1 (kTup (ksC kInt (ks1 kInt)))))) yStr))) plane_p), some (.pl (yLst yCn) corners_p), some (.ow (cSet P w) known_1), some (.ow (cLst yCn) ordered_2), none, none, none]) (ds_setF (i := 3) sc.nd rfl (.inl rfl) (de_sortS rfl rfl bt.sorted (de_ownS (pv 2) rfl))) (fun (ordered_2 : (List (Int × Int))) => ds_seqX (f := (fun a => a)) (ρ1 := fun (s18 : Unit) => [some (.pl (yObj "Plane" ["board", "rising", "falling", "letters"] (tysL (tysL (tysL (tysL tys0 yCn) yStr) yStr) (yDic P w (kTup (ksC (kTup (ksC kInt (ks1 kInt))) (ks1 (kTup (ksC kInt (ks1 kInt)))))) yStr))) plane_p), some (.pl (yLst yCn) corners_p), some (.ow (cSet P w) known_1), some (.ow (cLst yCn) ordered_2), none, none, none]) (ds_forX (eH := fun (s4 : Unit) => [some (.pl (yObj "Plane" ["board", "rising", "falling", "letters"] (tysL (tysL (tysL (tysL tys0 yCn) yStr) yStr) (yDic P w (kTup (ksC (kTup (ksC kInt (ks1 kInt))) (ks1 (kTup (ksC kInt (ks1 kInt)))))) yStr))) plane_p), some (.pl (yLst yCn) corners_p), some (.ow (cSet P w) known_1), some (.ow (cLst yCn) ordered_2), none, none, none]) (eB := fun (s4 : Unit) (k_3 : Int) => [some (.pl (yObj "Plane" ["board", "rising", "falling", "letters"] (tysL (tysL (tysL (tysL tys0 yCn) yStr) yStr) (yDic P w (kTup (ksC (kTup (ksC kInt (ks1 kInt))) (ks1 (kTup (ksC kInt (ks1 kInt)))))) yStr))) plane_p), some (.pl (yLst yCn) corners_p), some (.ow (cSet P w) known_1), some (.ow (cLst yCn) ordered_2), some (.pl yInt k_3), none, none]) (a0 := ()) (passes_of rfl) rfl (di_range1 (by rfl) bt.range (de_len len_lst rfl bt.len (de_ownL (pv 3) rfl))) (.keep (.keep (.keep (.keep (.keep (.keep (.keep .nil))))))) (fun (s4 : Unit) => dg_name (pg_name (i := 4) sc.nd rfl (.inl rfl))) (fun _ => ⟨_, rfl⟩) (fun (s4 : Unit) (k_3 : Int) => ds_seqX (f := (fun (a : (Option ((Int × Int) × (Int × Int) × (Int × Int)))) => (Sum.inr a : _ ⊕ (Option ((Int × Int) × (Int × Int) × (Int × Int)))))) (ρ1 := fun (s16 : Unit) => [some (.pl (yObj "Plane" ["board", "rising", "falling", "letters"] (tysL (tysL (tysL (tysL tys0 yCn) yStr) yStr) (yDic P w (kTup (ksC (kTup (ksC kInt (ks1 kInt))) (ks1 (kTup (ksC kInt (ks1 kInt)))))) yStr))) plane_p), some (.pl (yLst yCn) corners_p), some (.ow (cSet P w) known_1), some (.ow (cLst yCn) ordered_2), some (.pl yInt k_3), none, none]) (ds_forX (eH := fun (s6 : Unit) => [some (.pl (yObj "Plane" ["board", "rising", "falling", "letters"] (tysL (tysL (tysL (tysL tys0 yCn) yStr) yStr) (yDic P w (kTup (ksC (kTup (ksC kInt (ks1 kInt))) (ks1 (kTup (ksC kInt (ks1 kInt)))))) yStr))) plane_p), some (.pl (yLst yCn) corners_p), some (.ow (cSet P w) known_1), some (.ow (cLst yCn) ordered_2), some (.pl yInt k_3), none, none]) (eB := fun (s6 : Unit) (other_5 : (Int × Int)) => [some (.pl (yObj "Plane" ["board", "rising", "falling", "letters"] (tysL (tysL (tysL (tysL tys0 yCn) yStr) yStr) (yDic P w (kTup (ksC (kTup (ksC kInt (ks1 kInt))) (ks1 (kTup (ksC kInt (ks1 kInt)))))) yStr))) plane_p), some (.pl (yLst yCn) corners_p), some (.ow (cSet P w) known_1), some (.ow (cLst yCn) ordered_2), some (.pl yInt k_3), some (.pl yCn other_5), none]) (a0 := ()) (passes_of rfl) rfl (di_list (DE.fpL (de_sliceL (imm_tup (imm_C imm_int (imm_1 imm_int))) (de_ownL (pv 3) rfl) (do_some (de_add (de_var (pv 4) rfl) (de_c (T := yInt) (a := (1 : Int)) pe_int (fun _ => rfl)))) (do_none)))) (.keep (.keep (.keep (.keep (.keep (.keep (.keep .nil))))))) (fun (s6 : Unit) => dg_name (pg_name (i := 5) sc.nd rfl (.inl rfl))) (fun _ => ⟨_, rfl⟩) (fun (s6 : Unit) (other_5 : (Int × Int)) => ds_seqX (f := (fun (a : (Option ((Int × Int) × (Int × Int) × (Int × Int)))) => (Sum.inr a : _ ⊕ (Option ((Int × Int) × (Int × Int) × (Int × Int)))))) (ρ1 := fun (s15 : Unit) => [some (.pl (yObj "Plane" ["board", "rising", "falling", "letters"] (tysL (tysL (tysL (tysL tys0 yCn) yStr) yStr) (yDic P w (kTup (ksC (kTup (ksC kInt (ks1 kInt))) (ks1 (kTup (ksC kInt (ks1 kInt)))))) yStr))) plane_p), some (.pl (yLst yCn) corners_p), some (.ow (cSet P w) known_1), some (.ow (cLst yCn) ordered_2), some (.pl yInt k_3), some (.pl yCn other_5), none]) (ds_forX (eH := fun (s10 : Unit) => [some (.pl (yObj "Plane" ["board", "rising", "falling", "letters"] (tysL (tysL (tysL (tysL tys0 yCn) yStr) yStr) (yDic P w (kTup (ksC (kTup (ksC kInt (ks1 kInt))) (ks1 (kTup (ksC kInt (ks1 kInt)))))) yStr))) plane_p), some (.pl (yLst yCn) corners_p), some (.ow (cSet P w) known_1), some (.ow (cLst yCn) ordered_2), some (.pl yInt k_3), some (.pl yCn other_5), none]) (eB := fun (s10 : Unit) (corner_9 : (Int × Int)) => [some (.pl (yObj "Plane" ["board", "rising", "falling", "letters"] (tysL (tysL (tysL (tysL tys0 yCn) yStr) yStr) (yDic P w (kTup (ksC (kTup (ksC kInt (ks1 kInt))) (ks1 (kTup (ksC kInt (ks1 kInt)))))) yStr))) plane_p), some (.pl (yLst yCn) corners_p), some (.ow (cSet P w) known_1), some (.ow (cLst yCn) ordered_2), some (.pl yInt k_3), some (.pl yCn other_5), some (.pl yCn corner_9)]) (a0 := ()) (passes_of rfl) rfl (di_list (DE.fpL (de_mBF c_Plane_line (hr.mono (by decide)) passC (by decide +kernel) (de_var (pv 0) rfl) (da_cons (de_ixL (de_ownL (pv 3) rfl) (de_var (pv 4) rfl)) (da_one (de_var (pv 5) rfl))) (imm_cLst (imm_tup (imm_C imm_int (imm_1 imm_int)))) (wkN rfl)))) (.keep (.keep (.keep (.keep (.keep (.keep (.keep .nil))))))) (fun (s10 : Unit) => dg_name (pg_name (i := 6) sc.nd rfl (.inl rfl))) (fun _ => ⟨_, rfl⟩) (fun (s10 : Unit) (corner_9 : (Int × Int)) => ds_one (ds_if1 (DQ.dt (dq_notInS (u64 hr) (de_var (pv 6) rfl) (de_ownS (pv 2) rfl))) (ds_one (ds_ret (f := (fun a => (.inr a))) (DE.as_ (U := (yOpt (yTup (tysC yCn (tysC yCn (tys1 yCn)))))) (f := some) (de_tup (dp_cons (DE.bp (de_ixL (de_ownL (pv 3) rfl) (de_var (pv 4) rfl)) (imm_tup (imm_C imm_int (imm_1 imm_int)))) (dp_cons (de_var (pv 5) rfl) (dp_one (de_var (pv 6) rfl))))) (fun h => ⟨h, nn_tup h⟩)) (fun _ => rfl))) (ds_nil (c := (.inl ())) (by first | exact .inl rfl | exact .inr rfl) (.keep (.keep (.keep (.keep (.keep (.keep (.drop .nil))))))))))) (fun (s15 : Unit) => ds_nil (c := (.inl ())) (by first | exact .inl rfl | exact .inr rfl) (.keep (.keep (.keep (.keep (.keep (.drop (.keep .nil)))))))) (fun x => by first | exact ⟨rfl, trivial⟩ | (cases x <;> exact ⟨rfl, trivial⟩)))) (fun (s16 : Unit) => ds_nil (c := (.inl ())) (by first | exact .inl rfl | exact .inr rfl) (.keep (.keep (.keep (.keep (.drop (.keep (.keep .nil)))))))) (fun x => by first | exact ⟨rfl, trivial⟩ | (cases x <;> exact ⟨rfl, trivial⟩)))) (fun (s18 : Unit) => ds_one (ds_ret (f := (fun a => a)) (DE.as_ (U := (yOpt (yTup (tysC yCn (tysC yCn (tys1 yCn)))))) (f := fun _ => none) (de_c (T := yNon) (a := ()) pe_non (fun _ => rfl)) (fun h => h)) (fun _ => rfl))) (fun x => by first | exact ⟨rfl, trivial⟩ | (cases x <;> exact ⟨rfl, trivial⟩))))) (by unfold m_open_pair; simp only [bo, isIn_dec, andok, orok]), fun _ => .inl rfl⟩
def m_open (table_p : (List (((Int × Int) × (Int × Int)) × PySem.Str))) (row_p : (List (Int × Int))) : R Er (Option ((Int × Int) × (Int × Int) × (Int × Int))) := R.seqX (((rRng 0 (List.length row_p : Int))).bind fun v16 => forX (fun (k_1 : Int) (s2 : Unit) => R.seqX (forX (fun (other_3 : (Int × Int)) (s4 : Unit) => R.seqX ((((((rIx row_p k_1)).bind fun v5 => R.ok (v5, other_3)).bind fun v6 => R.ok (table_p, v6)).bind fun v7 => (m_line v7.1 v7.2.1 v7.2.2)).bind fun v13 => forX (fun (spot_8 : (Int × Int)) (s9 : Unit) => if (!memB spot_8 row_p) then (((((rIx row_p k_1)).bind fun v10 => R.ok (v10, other_3, spot_8)).bind fun v11 => R.ok (some v11)).bind fun v12 => R.ok (.inr v12)) else
  (R.ok (.inl ()))) v13 ()) (fun (a : (Option ((Int × Int) × (Int × Int) × (Int × Int)))) => (Sum.inr a : _ ⊕ (Option ((Int × Int) × (Int × Int) × (Int × Int))))) fun (s14 : Unit) =>
  R.ok (.inl ())) (cut row_p (some (k_1 + (1 : Int))) none) ()) (fun (a : (Option ((Int × Int) × (Int × Int) × (Int × Int)))) => (Sum.inr a : _ ⊕ (Option ((Int × Int) × (Int × Int) × (Int × Int))))) fun (s15 : Unit) =>
  R.ok (.inl ())) v16 ()) (fun a => a) fun (s17 : Unit) =>
  R.ok (none : (Option ((Int × Int) × (Int × Int) × (Int × Int))))
abbrev sp_open (P : Program) (w : World) (K : PySem.W.Frag) : Sp := spD (K := K) EX (tysC (yDic P w (kTup (ksC (kTup (ksC kInt (ks1 kInt))) (ks1 (kTup (ksC kInt (ks1 kInt)))))) yStr) (tys1 (yLst yCn))) (qP (K := K) (yOpt (yTup (tysC yCn (tysC yCn (tys1 yCn)))))) (fun a => m_open a.1 a.2)
theorem sc_open : FnScope ["_law_table", "_law_row", "_law_k", "_law_other", "_law_spot"] ["_law_table", "_law_row"] (defScope s_open) := ⟨rfl, rfl, rfl, by decide +kernel, rfl, by decide +kernel, by decide +kernel⟩
theorem ok_open {P : Program} {w : World} {K : PySem.W.Frag} {mg : Str → Option Value} {base : Heap} {f : Addr} {fd : FuncData} (F : FnP K "_law_open" s_open f fd) (c_line : Cal P w K mg base CX 3 "_law_line" ["_law_table", "_law_p", "_law_q"] (sp_line P w K)) (oc : OC K) (bt : Bt mg) : FnOk P w K mg base CX 4 f fd ["_law_table", "_law_row"] (sp_open P w K) := by
  refine fn_ok F sc_open (entC (ent1 rfl)) rfl fun cdv A outer s H E hr a => ?_
  obtain ⟨table_p, row_p⟩ := a
  have sc := sc_open
  exact ⟨_, fun c => .rt (qP (K := K) (yOpt (yTup (tysC yCn (tysC yCn (tys1 yCn))))) c), DS.cast (m' := m_open table_p row_p) (ds_seqX (f := (fun a => a)) (ρ1 := fun (s17 : Unit) => [some (.pl (yDic P w (kTup (ksC (kTup (ksC kInt (ks1 kInt))) (ks1 (kTup (ksC kInt (ks1 kInt)))))) yStr) table_p), some (.pl (yLst yCn) row_p), none, none, none]) (ds_forX (eH := fun (s2 : Unit) => [some (.pl (yDic P w (kTup (ksC (kTup (ksC kInt (ks1 kInt))) (ks1 (kTup (ksC kInt (ks1 kInt)))))) yStr) table_p), some (.pl (yLst yCn) row_p), none, none, none]) (eB := fun (s2 : Unit) (k_1 : Int) => [some (.pl (yDic P w (kTup (ksC (kTup (ksC kInt (ks1 kInt))) (ks1 (kTup (ksC kInt (ks1 kInt)))))) yStr) table_p), some (.pl (yLst yCn) row_p), some (.pl yInt k_1), none, none]) (a0 := ()) (passes_of rfl) rfl (di_range1 (by rfl) bt.range (de_len len_lst rfl bt.len (de_var (pv 1) rfl))) (.keep (.keep (.keep (.keep (.keep .nil))))) (fun (s2 : Unit) => dg_name (pg_name (i := 2) sc.nd rfl (.inl rfl))) (fun _ => ⟨_, rfl⟩) (fun (s2 : Unit) (k_1 : Int) => ds_seqX (f := (fun (a : (Option ((Int × Int) × (Int × Int) × (Int × Int)))) => (Sum.inr a : _ ⊕ (Option ((Int × Int) × (Int × Int) × (Int × Int)))))) (ρ1 := fun (s15 : Unit) => [some (.pl (yDic P w (kTup (ksC (kTup (ksC kInt (ks1 kInt))) (ks1 (kTup (ksC kInt (ks1 kInt)))))) yStr) table_p), some (.pl (yLst yCn) row_p), some (.pl yInt k_1), none, none]) (ds_forX (eH := fun (s4 : Unit) => [some (.pl (yDic P w (kTup (ksC (kTup (ksC kInt (ks1 kInt))) (ks1 (kTup (ksC kInt (ks1 kInt)))))) yStr) table_p), some (.pl (yLst yCn) row_p), some (.pl yInt k_1), none, none]) (eB := fun (s4 : Unit) (other_3 : (Int × Int)) => [some (.pl (yDic P w (kTup (ksC (kTup (ksC kInt (ks1 kInt))) (ks1 (kTup (ksC kInt (ks1 kInt)))))) yStr) table_p), some (.pl (yLst yCn) row_p), some (.pl yInt k_1), some (.pl yCn other_3), none]) (a0 := ()) (passes_of rfl) rfl (di_list (DE.fpL (de_sliceL (imm_tup (imm_C imm_int (imm_1 imm_int))) (de_var (pv 1) rfl) (do_some (de_add (de_var (pv 2) rfl) (de_c (T := yInt) (a := (1 : Int)) pe_int (fun _ => rfl)))) (do_none)))) (.keep (.keep (.keep (.keep (.keep .nil))))) (fun (s4 : Unit) => dg_name (pg_name (i := 3) sc.nd rfl (.inl rfl))) (fun _ => ⟨_, rfl⟩) (fun (s4 : Unit) (other_3 : (Int × Int)) => ds_seqX (f := (fun (a : (Option ((Int × Int) × (Int × Int) × (Int × Int)))) => (Sum.inr a : _ ⊕ (Option ((Int × Int) × (Int × Int) × (Int × Int)))))) (ρ1 := fun (s14 : Unit) => [some (.pl (yDic P w (kTup (ksC (kTup (ksC kInt (ks1 kInt))) (ks1 (kTup (ksC kInt (ks1 kInt)))))) yStr) table_p), some (.pl (yLst yCn) row_p), some (.pl yInt k_1), some (.pl yCn other_3), none]) (ds_forX (eH := fun (s9 : Unit) => [some (.pl (yDic P w (kTup (ksC (kTup (ksC kInt (ks1 kInt))) (ks1 (kTup (ksC kInt (ks1 kInt)))))) yStr) table_p), some (.pl (yLst yCn) row_p), some (.pl yInt k_1), some (.pl yCn other_3), none]) (eB := fun (s9 : Unit) (spot_8 : (Int × Int)) => [some (.pl (yDic P w (kTup (ksC (kTup (ksC kInt (ks1 kInt))) (ks1 (kTup (ksC kInt (ks1 kInt)))))) yStr) table_p), some (.pl (yLst yCn) row_p), some (.pl yInt k_1), some (.pl yCn other_3), some (.pl yCn spot_8)]) (a0 := ()) (passes_of rfl) rfl (di_list (DE.fpL (de_callF c_line.ok (hr.mono (by decide)) rfl c_line.mg c_line.kp c_line.bd passC (da_cons (de_var (pv 0) rfl) (da_cons (de_ixL (de_var (pv 1) rfl) (de_var (pv 2) rfl)) (da_one (de_var (pv 3) rfl)))) (imm_cLst (imm_tup (imm_C imm_int (imm_1 imm_int)))) (wkN rfl)))) (.keep (.keep (.keep (.keep (.keep .nil))))) (fun (s9 : Unit) => dg_name (pg_name (i := 4) sc.nd rfl (.inl rfl))) (fun _ => ⟨_, rfl⟩) (fun (s9 : Unit) (spot_8 : (Int × Int)) => ds_one (ds_if1 (DQ.dt (dq_notInL (q_tup (q_C q_int (q_1 q_int))) (u65 hr) (lo rfl) (de_var (pv 4) rfl) (de_var (pv 1) rfl))) (ds_one (ds_ret (f := (fun a => (.inr a))) (DE.as_ (U := (yOpt (yTup (tysC yCn (tysC yCn (tys1 yCn)))))) (f := some) (de_tup (dp_cons (de_ixL (de_var (pv 1) rfl) (de_var (pv 2) rfl)) (dp_cons (de_var (pv 3) rfl) (dp_one (de_var (pv 4) rfl))))) (fun h => ⟨h, nn_tup h⟩)) (fun _ => rfl))) (ds_nil (c := (.inl ())) (by first | exact .inl rfl | exact .inr rfl) (.keep (.keep (.keep (.keep (.drop .nil))))))))) (fun (s14 : Unit) => ds_nil (c := (.inl ())) (by first | exact .inl rfl | exact .inr rfl) (.keep (.keep (.keep (.drop (.keep .nil)))))) (fun x => by first | exact ⟨rfl, trivial⟩ | (cases x <;> exact ⟨rfl, trivial⟩)))) (fun (s15 : Unit) => ds_nil (c := (.inl ())) (by first | exact .inl rfl | exact .inr rfl) (.keep (.keep (.drop (.keep (.keep .nil)))))) (fun x => by first | exact ⟨rfl, trivial⟩ | (cases x <;> exact ⟨rfl, trivial⟩)))) (fun (s17 : Unit) => ds_one (ds_ret (f := (fun a => a)) (DE.as_ (U := (yOpt (yTup (tysC yCn (tysC yCn (tys1 yCn)))))) (f := fun _ => none) (de_c (T := yNon) (a := ()) pe_non (fun _ => rfl)) (fun h => h)) (fun _ => rfl))) (fun x => by first | exact ⟨rfl, trivial⟩ | (cases x <;> exact ⟨rfl, trivial⟩))) (by unfold m_open; simp only [bo, isIn_dec, andok, orok]), fun _ => .inl rfl⟩
def m_is_path (told_p : (Option ((Int × Int) × (Int × Int) × (Int × Int)))) (wanted_p : ((Int × Int) × (Int × Int) × (Int × Int))) : R Er Bool := ((if (!(optB false (fun _ => true) told_p)) then R.ok true else (((unO told_p)).bind fun v1 => R.ok ((3 : Nat) : Int)).bind fun v2 => R.ok (!decide (v2 = ((3 : Nat) : Int))))).bind fun v17 => if v17 then (R.ok false) else
  (R.seqX (((rRng 0 ((3 : Nat) : Int))).bind fun v15 => forX (fun (k_3 : Int) (s4 : Unit) => (((((((unO told_p)).bind fun v5 => R.ok ([v5.1, v5.2.1, v5.2.2] : List (Int × Int))).bind fun v6 => (rIx v6 k_3)).bind fun v7 => (m_is_corner v7)).bind fun v8 => R.ok (!v8)).bind fun v13 => (if v13 then R.ok true else ((((unO told_p)).bind fun v9 => R.ok ([v9.1, v9.2.1, v9.2.2] : List (Int × Int))).bind fun v10 => (rIx v10 k_3)).bind fun v11 => ((rIx ([wanted_p.1, wanted_p.2.1, wanted_p.2.2] : List (Int × Int)) k_3)).bind fun v12 => R.ok (!decide (v11 = v12)))).bind fun v14 => if v14 then (R.ok (.inr false)) else
  (R.ok (.inl ()))) v15 ()) (fun a => a) fun (s16 : Unit) =>
  R.ok true)
abbrev sp_is_path (P : Program) (w : World) (K : PySem.W.Frag) : Sp := spD (K := K) EX (tysC (yOpt (yTup (tysC yCn (tysC yCn (tys1 yCn))))) (tys1 (yTup (tysC yCn (tysC yCn (tys1 yCn)))))) (qP (K := K) yBl) (fun a => m_is_path a.1 a.2)
theorem sc_is_path : FnScope ["_law_told", "_law_wanted", "_law_k"] ["_law_told", "_law_wanted"] (defScope s_is_path) := ⟨rfl, rfl, rfl, by decide +kernel, rfl, by decide +kernel, by decide +kernel⟩
theorem ok_is_path {P : Program} {w : World} {K : PySem.W.Frag} {mg : Str → Option Value} {base : Heap} {f : Addr} {fd : FuncData} (F : FnP K "_law_is_path" s_is_path f fd) (c_is_corner : Cal P w K mg base CX 2 "_law_is_corner" ["_law_told"] (sp_is_corner P w K)) (oc : OC K) (bt : Bt mg) : FnOk P w K mg base CX 3 f fd ["_law_told", "_law_wanted"] (sp_is_path P w K) := by
  refine fn_ok F sc_is_path (entC (ent1 rfl)) rfl fun cdv A outer s H E hr a => ?_
  obtain ⟨told_p, wanted_p⟩ := a
  have sc := sc_is_path
  exact ⟨_, fun c => .rt (qP (K := K) yBl c), DS.cast (m' := m_is_path told_p wanted_p) (ds_ift (DW.dt (dw_or (dt_not (DQ.dt (dq_isi (cls := "tuple") (isi_opt (b := false) (by decide +kernel) (isi_tup (b := true) (by decide +kernel))) rfl bt.isinstance (by decide +kernel) rfl bt.tuple (by decide +kernel) (de_var (pv 0) rfl)))) (dw_or1 (DQ.dt (dq_neI (de_len (len_tupN (n := 3) rfl) rfl bt.len (de_some (de_var (pv 0) rfl))) (de_len (len_tupN (n := 3) rfl) rfl bt.len (de_var (pv 1) rfl))))))) (ds_one (ds_ret (f := (fun a => a)) (de_c (T := yBl) (a := false) pe_bl (fun _ => rfl)) (fun _ => rfl))) (fun _ => rfl) (ds_seqX (f := (fun a => a)) (ρ1 := fun (s16 : Unit) => [some (.pl (yOpt (yTup (tysC yCn (tysC yCn (tys1 yCn))))) told_p), some (.pl (yTup (tysC yCn (tysC yCn (tys1 yCn)))) wanted_p), none]) (ds_forX (eH := fun (s4 : Unit) => [some (.pl (yOpt (yTup (tysC yCn (tysC yCn (tys1 yCn))))) told_p), some (.pl (yTup (tysC yCn (tysC yCn (tys1 yCn)))) wanted_p), none]) (eB := fun (s4 : Unit) (k_3 : Int) => [some (.pl (yOpt (yTup (tysC yCn (tysC yCn (tys1 yCn))))) told_p), some (.pl (yTup (tysC yCn (tysC yCn (tys1 yCn)))) wanted_p), some (.pl yInt k_3)]) (a0 := ()) (passes_of rfl) rfl (di_range1 (by rfl) bt.range (de_len (len_tupN (n := 3) rfl) rfl bt.len (de_var (pv 1) rfl))) (.keep (.keep (.keep .nil))) (fun (s4 : Unit) => dg_name (pg_name (i := 2) sc.nd rfl (.inl rfl))) (fun _ => ⟨_, rfl⟩) (fun (s4 : Unit) (k_3 : Int) => ds_one (ds_if1 (DW.dt (dw_or (dt_not (dt_val (de_call c_is_corner.ok (hr.mono (by decide)) rfl c_is_corner.mg c_is_corner.kp c_is_corner.bd passC (da_one (de_ixT (DE.as_ (U := (yTupOf yCn)) (de_some (de_var (pv 0) rfl)) (Tl.rel (tl_C (tl_C tl_1)))) (de_var (pv 2) rfl))) imm_bl (wkN rfl)))) (dw_or1 (DQ.dt (dq_ne (q_tup (q_C q_int (q_1 q_int))) (u64 hr) (lo rfl) (lo rfl) (de_ixT (DE.as_ (U := (yTupOf yCn)) (de_some (de_var (pv 0) rfl)) (Tl.rel (tl_C (tl_C tl_1)))) (de_var (pv 2) rfl)) (de_ixT (DE.as_ (U := (yTupOf yCn)) (de_var (pv 1) rfl) (Tl.rel (tl_C (tl_C tl_1)))) (de_var (pv 2) rfl))))))) (ds_one (ds_ret (f := (fun a => (.inr a))) (de_c (T := yBl) (a := false) pe_bl (fun _ => rfl)) (fun _ => rfl))) (ds_nil (c := (.inl ())) (by first | exact .inl rfl | exact .inr rfl) (.keep (.keep (.drop .nil))))))) (fun (s16 : Unit) => ds_one (ds_ret (f := (fun a => a)) (de_c (T := yBl) (a := true) pe_bl (fun _ => rfl)) (fun _ => rfl))) (fun x => by first | exact ⟨rfl, trivial⟩ | (cases x <;> exact ⟨rfl, trivial⟩)))) (by unfold m_is_path; simp only [bo, isIn_dec, andok, orok]), fun _ => .inl rfl⟩
def m_is_open (told_p : (Option ((Int × Int) × (Int × Int) × (Int × Int)))) (wanted_p : (Option ((Int × Int) × (Int × Int) × (Int × Int)))) : R Er Bool := if (Option.isNone wanted_p) then (R.ok (Option.isNone told_p)) else
  ((unO wanted_p).bind fun (wanted_1 : ((Int × Int) × (Int × Int) × (Int × Int))) =>
  ((m_is_path told_p wanted_1)).bind fun v2 => R.ok v2)
abbrev sp_is_open (P : Program) (w : World) (K : PySem.W.Frag) : Sp := spD (K := K) EX (tysC (yOpt (yTup (tysC yCn (tysC yCn (tys1 yCn))))) (tys1 (yOpt (yTup (tysC yCn (tysC yCn (tys1 yCn))))))) (qP (K := K) yBl) (fun a => m_is_open a.1 a.2)
theorem sc_is_open : FnScope ["_law_told", "_law_wanted"] ["_law_told", "_law_wanted"] (defScope s_is_open) := ⟨rfl, rfl, rfl, by decide +kernel, rfl, by decide +kernel, by decide +kernel⟩
theorem ok_is_open {P : Program} {w : World} {K : PySem.W.Frag} {mg : Str → Option Value} {base : Heap} {f : Addr} {fd : FuncData} (F : FnP K "_law_is_open" s_is_open f fd) (c_is_path : Cal P w K mg base CX 3 "_law_is_path" ["_law_told", "_law_wanted"] (sp_is_path P w K)) (oc : OC K) (bt : Bt mg) : FnOk P w K mg base CX 4 f fd ["_law_told", "_law_wanted"] (sp_is_open P w K) := by
  refine fn_ok F sc_is_open (entC (ent1 rfl)) rfl fun cdv A outer s H E hr a => ?_
  obtain ⟨told_p, wanted_p⟩ := a
  have sc := sc_is_open
  exact ⟨_, fun c => .rt (qP (K := K) yBl c), DS.cast (m' := m_is_open told_p wanted_p) (ds_ift (DQ.dt (dq_isN (de_var (pv 1) rfl))) (ds_one (ds_ret (f := (fun a => a)) (DQ.de (dq_isN (de_var (pv 0) rfl))) (fun _ => rfl))) (fun _ => rfl) (ds_unopt (i := 1) rfl (fun (wanted_1 : ((Int × Int) × (Int × Int) × (Int × Int))) => ds_one (ds_ret (f := (fun a => a)) (de_call c_is_path.ok (hr.mono (by decide)) rfl c_is_path.mg c_is_path.kp c_is_path.bd passC (da_cons (de_var (pv 0) rfl) (da_one (de_var (pv 1) rfl))) imm_bl (wkN rfl)) (fun _ => rfl))))) (by unfold m_is_open; simp only [bo, isIn_dec, andok, orok]), fun _ => .inl rfl⟩
def m_closure_own_2 (plane_p : ((((Unit × (Int × Int)) × PySem.Str) × PySem.Str) × (List (((Int × Int) × (Int × Int)) × PySem.Str)))) (corners_p : (List (Int × Int))) : R Er (List (Int × Int)) := (((m_derivation_2 plane_p corners_p)).bind fun v3 => (lcR (fun (entry_2 : ((Int × Int) × (Int × Int) × (Int × Int))) => (R.ok true)) (fun (entry_2 : ((Int × Int) × (Int × Int) × (Int × Int))) => (R.ok entry_2.1)) v3)).bind fun (derived_1 : (List (Int × Int))) =>
  ((((rCatL corners_p derived_1)).bind fun v4 => (rSetC v4)).bind fun v5 => (rSortC v5)).bind fun v6 => R.ok v6
abbrev sp_closure_own_2 (P : Program) (w : World) (K : PySem.W.Frag) : Sp := spD (K := K) EX (tysC (yObj "Plane" ["board", "rising", "falling", "letters"] (tysL (tysL (tysL (tysL tys0 yCn) yStr) yStr) (yDic P w (kTup (ksC (kTup (ksC kInt (ks1 kInt))) (ks1 (kTup (ksC kInt (ks1 kInt)))))) yStr))) (tys1 (yTupOf yCn))) (qF (K := K) (cLst yCn)) (fun a => m_closure_own_2 a.1 a.2)
theorem ok_closure_own_2 {P : Program} {w : World} {K : PySem.W.Frag} {mg : Str → Option Value} {base : Heap} {f : Addr} {fd : FuncData} (F : FnP K "closure" s_closure_own f fd) (c_derivation_2 : Cal P w K mg base CX 5 "derivation" ["plane", "corners"] (sp_derivation_2 P w K)) (oc : OC K) (bt : Bt mg) : FnOk P w K mg base CX 6 f fd ["plane", "corners"] (sp_closure_own_2 P w K) := by
  refine fn_ok F sc_closure_own (entC (ent1 rfl)) rfl fun cdv A outer s H E hr a => ?_
  obtain ⟨plane_p, corners_p⟩ := a
  have sc := sc_closure_own
  exact ⟨_, fun c => .rt (qF (K := K) (cLst yCn) c), DS.cast (m' := m_closure_own_2 plane_p corners_p) (ds_cons (ρ1 := fun (derived_1 : (List (Int × Int))) => [some (.pl (yObj "Plane" ["board", "rising", "falling", "letters"] (tysL (tysL (tysL (tysL tys0 yCn) yStr) yStr) (yDic P w (kTup (ksC (kTup (ksC kInt (ks1 kInt))) (ks1 (kTup (ksC kInt (ks1 kInt)))))) yStr))) plane_p), some (.pl (yTupOf yCn) corners_p), some (.ow (cLst yCn) derived_1), none]) (ds_setLc (i := 2) (own := [("entry", 3)]) (ρ' := fun (entry_2 : ((Int × Int) × (Int × Int) × (Int × Int))) => [some (.pl (yObj "Plane" ["board", "rising", "falling", "letters"] (tysL (tysL (tysL (tysL tys0 yCn) yStr) yStr) (yDic P w (kTup (ksC (kTup (ksC kInt (ks1 kInt))) (ks1 (kTup (ksC kInt (ks1 kInt)))))) yStr))) plane_p), some (.pl (yTupOf yCn) corners_p), none, some (.pl (yTup (tysC yCn (tysC yCn (tys1 yCn)))) entry_2)]) (U := yCn) rfl sc.nd rfl rfl rfl (DI.c (di_list (DE.fpL (de_callF c_derivation_2.ok (hr.mono (by decide)) rfl c_derivation_2.mg c_derivation_2.kp c_derivation_2.bd passC (da_cons (de_var (pv 0) rfl) (da_one (de_var (pv 1) rfl))) (imm_cLst (imm_tup (imm_C (imm_tup (imm_C imm_int (imm_1 imm_int))) (imm_C (imm_tup (imm_C imm_int (imm_1 imm_int))) (imm_1 (imm_tup (imm_C imm_int (imm_1 imm_int)))))))) (wkN rfl))))) (blkOk_by (N := ["plane", "corners", "derived", "entry"]) (sc := defScope s_closure_own) (by decide +kernel)) (fun _ _ _ _ _ => dgc (dg_name (pg_name (i := 3) sc.nd rfl (by first | exact .inl rfl | exact .inr rfl))) (by first | rfl | (dsimp only [Blk, Cx.blk, cxOf]; try rfl))) (by decide) (fun _ _ _ _ _ (entry_2 : ((Int × Int) × (Int × Int) × (Int × Int))) => dtc (dts_nil) (by first | rfl | (dsimp only [Blk, Cx.blk, cxOf]; try rfl))) (fun _ _ _ _ _ (entry_2 : ((Int × Int) × (Int × Int) × (Int × Int))) => dec (de_nth (de_var (pv 3) rfl) nth_0) (by first | rfl | (dsimp only [Blk, Cx.blk, cxOf]; try rfl)))) (fun (derived_1 : (List (Int × Int))) => ds_one (ds_retF (f := (fun a => a)) (de_sortS rfl rfl bt.sorted (DE.fp (de_setL rfl (u64 hr) rfl bt.set (DE.fpL (de_catL (imm_tup (imm_C imm_int (imm_1 imm_int))) (DE.fpL (de_list1 sq_tupOf (imm_tup (imm_C imm_int (imm_1 imm_int))) rfl bt.list (de_var (pv 1) rfl))) (de_ownL (pv 2) rfl)))) (fun h => h))) (fun _ => rfl)))) (by unfold m_closure_own_2; simp only [bo, isIn_dec, andok, orok]), fun _ => .inl rfl⟩
def m_fill (board_here_p : (Int × Int)) (forced_p : (List (((Int × Int) × (Int × Int)) × PySem.Str))) (bits_here_p : (List Int)) : R Er (List (((Int × Int) × (Int × Int)) × PySem.Str)) := (R.ok ([] : List (((Int × Int) × (Int × Int)) × PySem.Str))).bind fun (table_1 : (List (((Int × Int) × (Int × Int)) × PySem.Str))) =>
  (R.ok (0 : Int)).bind fun (k_2 : Int) =>
  (((m_pairs board_here_p)).bind fun v35 => forS (fun (row_3 : (Int × (Int × Int) × (Int × Int))) (s4 : ((List (((Int × Int) × (Int × Int)) × PySem.Str)) × Int)) => (R.ok row_3.2.1).bind fun (p_5 : (Int × Int)) =>
  (R.ok row_3.2.2).bind fun (q_6 : (Int × Int)) =>
  (R.ok ("N" : PySem.Str)).bind fun (steep_7 : PySem.Str) =>
  (if (decide (q_6.2 < p_5.2)) then ((R.ok ("S" : PySem.Str)).bind fun (steep_9 : PySem.Str) =>
  R.ok steep_9) else
  (R.ok steep_7)).bind fun (s8 : PySem.Str) =>
  (R.ok ([] : List PySem.Str)).bind fun (options_10 : (List PySem.Str)) =>
  (forS (fun (letter_here_11 : PySem.Str) (s12 : (List PySem.Str)) => ((((((m_moved p_5 letter_here_11)).bind fun v14 => R.ok (v14, q_6)).bind fun v15 => R.ok (s4.1, v15)).bind fun v16 => (m_walk v16.1 v16.2.1 v16.2.2)).bind fun v17 => (rCatL ([p_5] : List (Int × Int)) v17)).bind fun (line_here_13 : (List (Int × Int))) =>
  ((((((rIx line_here_13 (-(2 : Int)))).bind fun v18 => R.ok (p_5, v18)).bind fun v19 => R.ok (s4.1, v19)).bind fun v20 => (m_letter v20.1 v20.2.1 v20.2.2)).bind fun v21 => R.ok (decide (v21 = letter_here_11))).bind fun v24 => if v24 then (((rApp s12 letter_here_11)).bind fun (c23 : PySem.Str) =>
  R.ok (s12 ++ [c23])) else
  (R.ok s12)) ([("E" : PySem.Str), s8] : List PySem.Str) options_10).bind fun (s25 : (List PySem.Str)) =>
  if (dhas forced_p (p_5, q_6)) then ((((rGet forced_p (p_5, q_6))).bind fun v27 => (rApp s4.1 ((p_5, q_6), v27))).bind fun (c26 : (((Int × Int) × (Int × Int)) × PySem.Str)) =>
  R.ok ((dput s4.1 c26.1 c26.2), s4.2)) else
  (if (decide ((List.length s25 : Int) = (1 : Int))) then ((((rIx s25 (0 : Int))).bind fun v29 => (rApp s4.1 ((p_5, q_6), v29))).bind fun (c28 : (((Int × Int) × (Int × Int)) × PySem.Str)) =>
  R.ok ((dput s4.1 c28.1 c28.2), s4.2)) else
  ((((((rMod s4.2 (List.length bits_here_p : Int))).bind fun v30 => (rIx bits_here_p v30)).bind fun v31 => (rIx s25 v31)).bind fun v33 => (rApp s4.1 ((p_5, q_6), v33))).bind fun (c32 : (((Int × Int) × (Int × Int)) × PySem.Str)) =>
  (R.ok (s4.2 + (1 : Int))).bind fun (k_34 : Int) =>
  R.ok ((dput s4.1 c32.1 c32.2), k_34)))) v35 (table_1, k_2)).bind fun (s36 : ((List (((Int × Int) × (Int × Int)) × PySem.Str)) × Int)) =>
  R.ok s36.1
abbrev sp_fill (P : Program) (w : World) (K : PySem.W.Frag) : Sp := spD (K := K) EX (tysC yCn (tysC (yDic P w (kTup (ksC (kTup (ksC kInt (ks1 kInt))) (ks1 (kTup (ksC kInt (ks1 kInt)))))) yStr) (tys1 (yLst yInt)))) (qF (K := K) (cDic P w (kTup (ksC (kTup (ksC kInt (ks1 kInt))) (ks1 (kTup (ksC kInt (ks1 kInt)))))) yStr)) (fun a => m_fill a.1 a.2.1 a.2.2)
theorem sc_fill : FnScope ["_law_board_here", "_law_forced", "_law_bits_here", "_law_table", "_law_k", "_law_row", "_law_p", "_law_q", "_law_steep", "_law_options", "_law_letter_here", "_law_line_here"] ["_law_board_here", "_law_forced", "_law_bits_here"] (defScope s_fill) := ⟨rfl, rfl, rfl, by decide +kernel, rfl, by decide +kernel, by decide +kernel⟩
theorem ok_fill {P : Program} {w : World} {K : PySem.W.Frag} {mg : Str → Option Value} {base : Heap} {f : Addr} {fd : FuncData} (F : FnP K "_law_fill" s_fill f fd) (c_pairs : Cal P w K mg base CX 1 "_law_pairs" ["_law_board_here"] (sp_pairs P w K)) (c_moved : Cal P w K mg base CX 1 "_law_moved" ["_law_corner", "_law_letter_here"] (sp_moved P w K)) (c_walk : Cal P w K mg base CX 2 "_law_walk" ["_law_table", "_law_p", "_law_q"] (sp_walk P w K)) (c_letter : Cal P w K mg base CX 1 "_law_letter" ["_law_table", "_law_p", "_law_q"] (sp_letter P w K)) (oc : OC K) (bt : Bt mg) : FnOk P w K mg base CX 3 f fd ["_law_board_here", "_law_forced", "_law_bits_here"] (sp_fill P w K) := by
  refine fn_ok F sc_fill (entC (entC (ent1 rfl))) rfl fun cdv A outer s H E hr a => ?_
  obtain ⟨board_here_p, forced_p, bits_here_p⟩ := a
  have sc := sc_fill
  exact ⟨_, fun c => .rt (qF (K := K) (cDic P w (kTup (ksC (kTup (ksC kInt (ks1 kInt))) (ks1 (kTup (ksC kInt (ks1 kInt)))))) yStr) c), DS.cast (m' := m_fill board_here_p forced_p bits_here_p) (ds_cons (ρ1 := fun (table_1 : (List (((Int × Int) × (Int × Int)) × PySem.Str))) => [some (.pl yCn board_here_p), some (.pl (yDic P w (kTup (ksC (kTup (ksC kInt (ks1 kInt))) (ks1 (kTup (ksC kInt (ks1 kInt)))))) yStr) forced_p), some (.pl (yLst yInt) bits_here_p), some (.ow (cDic P w (kTup (ksC (kTup (ksC kInt (ks1 kInt))) (ks1 (kTup (ksC kInt (ks1 kInt)))))) yStr) table_1), none, none, none, none, none, none, none, none]) (ds_setF (i := 3) sc.nd rfl (.inl rfl) (de_newN (k := (kTup (ksC (kTup (ksC kInt (ks1 kInt))) (ks1 (kTup (ksC kInt (ks1 kInt))))))) (U := yStr))) (fun (table_1 : (List (((Int × Int) × (Int × Int)) × PySem.Str))) => ds_cons (ρ1 := fun (k_2 : Int) => [some (.pl yCn board_here_p), some (.pl (yDic P w (kTup (ksC (kTup (ksC kInt (ks1 kInt))) (ks1 (kTup (ksC kInt (ks1 kInt)))))) yStr) forced_p), some (.pl (yLst yInt) bits_here_p), some (.ow (cDic P w (kTup (ksC (kTup (ksC kInt (ks1 kInt))) (ks1 (kTup (ksC kInt (ks1 kInt)))))) yStr) table_1), some (.pl yInt k_2), none, none, none, none, none, none, none]) (ds_set (i := 4) sc.nd rfl (.inl rfl) (de_c (T := yInt) (a := (0 : Int)) pe_int (fun _ => rfl))) (fun (k_2 : Int) => ds_cons (ρ1 := fun (s36 : ((List (((Int × Int) × (Int × Int)) × PySem.Str)) × Int)) => [some (.pl yCn board_here_p), some (.pl (yDic P w (kTup (ksC (kTup (ksC kInt (ks1 kInt))) (ks1 (kTup (ksC kInt (ks1 kInt)))))) yStr) forced_p), some (.pl (yLst yInt) bits_here_p), some (.ow (cDic P w (kTup (ksC (kTup (ksC kInt (ks1 kInt))) (ks1 (kTup (ksC kInt (ks1 kInt)))))) yStr) s36.1), some (.pl yInt s36.2), none, none, none, none, none, none, none]) (ds_forS (eH := fun (s4 : ((List (((Int × Int) × (Int × Int)) × PySem.Str)) × Int)) => [some (.pl yCn board_here_p), some (.pl (yDic P w (kTup (ksC (kTup (ksC kInt (ks1 kInt))) (ks1 (kTup (ksC kInt (ks1 kInt)))))) yStr) forced_p), some (.pl (yLst yInt) bits_here_p), some (.ow (cDic P w (kTup (ksC (kTup (ksC kInt (ks1 kInt))) (ks1 (kTup (ksC kInt (ks1 kInt)))))) yStr) s4.1), some (.pl yInt s4.2), none, none, none, none, none, none, none]) (eB := fun (s4 : ((List (((Int × Int) × (Int × Int)) × PySem.Str)) × Int)) (row_3 : (Int × (Int × Int) × (Int × Int))) => [some (.pl yCn board_here_p), some (.pl (yDic P w (kTup (ksC (kTup (ksC kInt (ks1 kInt))) (ks1 (kTup (ksC kInt (ks1 kInt)))))) yStr) forced_p), some (.pl (yLst yInt) bits_here_p), some (.ow (cDic P w (kTup (ksC (kTup (ksC kInt (ks1 kInt))) (ks1 (kTup (ksC kInt (ks1 kInt)))))) yStr) s4.1), some (.pl yInt s4.2), some (.pl (yTup (tysC yInt (tysC yCn (tys1 yCn)))) row_3), none, none, none, none, none, none]) (a0 := (table_1, k_2)) (passes_of rfl) rfl (di_list (DE.fpL (de_callF c_pairs.ok (hr.mono (by decide)) rfl c_pairs.mg c_pairs.kp c_pairs.bd passC (da_one (de_var (pv 0) rfl)) (imm_cLst (imm_tup (imm_C imm_int (imm_C (imm_tup (imm_C imm_int (imm_1 imm_int))) (imm_1 (imm_tup (imm_C imm_int (imm_1 imm_int)))))))) (wkN rfl)))) (.keep (.keep (.keep (.keep (.keep (.keep (.keep (.keep (.keep (.keep (.keep (.keep .nil)))))))))))) (fun (s4 : ((List (((Int × Int) × (Int × Int)) × PySem.Str)) × Int)) => dg_name (pg_name (i := 5) sc.nd rfl (.inl rfl))) (fun (s4 : ((List (((Int × Int) × (Int × Int)) × PySem.Str)) × Int)) (row_3 : (Int × (Int × Int) × (Int × Int))) => ds_cons (ρ1 := fun (p_5 : (Int × Int)) => [some (.pl yCn board_here_p), some (.pl (yDic P w (kTup (ksC (kTup (ksC kInt (ks1 kInt))) (ks1 (kTup (ksC kInt (ks1 kInt)))))) yStr) forced_p), some (.pl (yLst yInt) bits_here_p), some (.ow (cDic P w (kTup (ksC (kTup (ksC kInt (ks1 kInt))) (ks1 (kTup (ksC kInt (ks1 kInt)))))) yStr) s4.1), some (.pl yInt s4.2), some (.pl (yTup (tysC yInt (tysC yCn (tys1 yCn)))) row_3), some (.pl yCn p_5), none, none, none, none, none]) (ds_set (i := 6) sc.nd rfl (.inl rfl) (de_nth (de_var (pv 5) rfl) (nth_s nth_0))) (fun (p_5 : (Int × Int)) => ds_cons (ρ1 := fun (q_6 : (Int × Int)) => [some (.pl yCn board_here_p), some (.pl (yDic P w (kTup (ksC (kTup (ksC kInt (ks1 kInt))) (ks1 (kTup (ksC kInt (ks1 kInt)))))) yStr) forced_p), some (.pl (yLst yInt) bits_here_p), some (.ow (cDic P w (kTup (ksC (kTup (ksC kInt (ks1 kInt))) (ks1 (kTup (ksC kInt (ks1 kInt)))))) yStr) s4.1), some (.pl yInt s4.2), some (.pl (yTup (tysC yInt (tysC yCn (tys1 yCn)))) row_3), some (.pl yCn p_5), some (.pl yCn q_6), none, none, none, none]) (ds_set (i := 7) sc.nd rfl (.inl rfl) (de_nth (de_var (pv 5) rfl) (nth_s (nth_s nth_1)))) (fun (q_6 : (Int × Int)) => ds_cons (ρ1 := fun (steep_7 : PySem.Str) => [some (.pl yCn board_here_p), some (.pl (yDic P w (kTup (ksC (kTup (ksC kInt (ks1 kInt))) (ks1 (kTup (ksC kInt (ks1 kInt)))))) yStr) forced_p), some (.pl (yLst yInt) bits_here_p), some (.ow (cDic P w (kTup (ksC (kTup (ksC kInt (ks1 kInt))) (ks1 (kTup (ksC kInt (ks1 kInt)))))) yStr) s4.1), some (.pl yInt s4.2), some (.pl (yTup (tysC yInt (tysC yCn (tys1 yCn)))) row_3), some (.pl yCn p_5), some (.pl yCn q_6), some (.pl yStr steep_7), none, none, none]) (ds_set (i := 8) sc.nd rfl (.inl rfl) (de_c (T := yStr) (a := ("N" : PySem.Str)) pe_str (fun _ => ⟨rfl, by decide +kernel⟩))) (fun (steep_7 : PySem.Str) => ds_cons (ρ1 := fun (s8 : PySem.Str) => [some (.pl yCn board_here_p), some (.pl (yDic P w (kTup (ksC (kTup (ksC kInt (ks1 kInt))) (ks1 (kTup (ksC kInt (ks1 kInt)))))) yStr) forced_p), some (.pl (yLst yInt) bits_here_p), some (.ow (cDic P w (kTup (ksC (kTup (ksC kInt (ks1 kInt))) (ks1 (kTup (ksC kInt (ks1 kInt)))))) yStr) s4.1), some (.pl yInt s4.2), some (.pl (yTup (tysC yInt (tysC yCn (tys1 yCn)))) row_3), some (.pl yCn p_5), some (.pl yCn q_6), some (.pl yStr s8), none, none, none]) (ds_if1 (DQ.dt (dq_lt (de_nth (de_var (pv 7) rfl) (nth_s nth_1)) (de_nth (de_var (pv 6) rfl) (nth_s nth_1)))) (ds_cons (ρ1 := fun (steep_9 : PySem.Str) => [some (.pl yCn board_here_p), some (.pl (yDic P w (kTup (ksC (kTup (ksC kInt (ks1 kInt))) (ks1 (kTup (ksC kInt (ks1 kInt)))))) yStr) forced_p), some (.pl (yLst yInt) bits_here_p), some (.ow (cDic P w (kTup (ksC (kTup (ksC kInt (ks1 kInt))) (ks1 (kTup (ksC kInt (ks1 kInt)))))) yStr) s4.1), some (.pl yInt s4.2), some (.pl (yTup (tysC yInt (tysC yCn (tys1 yCn)))) row_3), some (.pl yCn p_5), some (.pl yCn q_6), some (.pl yStr steep_9), none, none, none]) (ds_set (i := 8) sc.nd rfl (.inl rfl) (de_c (T := yStr) (a := ("S" : PySem.Str)) pe_str (fun _ => ⟨rfl, by decide +kernel⟩))) (fun (steep_9 : PySem.Str) => ds_nil (c := steep_9) (by first | exact .inl rfl | exact .inr rfl) (.keep (.keep (.keep (.keep (.keep (.keep (.keep (.keep (.keep (.keep (.keep (.keep .nil)))))))))))))) (ds_nil (c := steep_7) (by first | exact .inl rfl | exact .inr rfl) (.keep (.keep (.keep (.keep (.keep (.keep (.keep (.keep (.keep (.keep (.keep (.keep .nil)))))))))))))) (fun (s8 : PySem.Str) => ds_cons (ρ1 := fun (options_10 : (List PySem.Str)) => [some (.pl yCn board_here_p), some (.pl (yDic P w (kTup (ksC (kTup (ksC kInt (ks1 kInt))) (ks1 (kTup (ksC kInt (ks1 kInt)))))) yStr) forced_p), some (.pl (yLst yInt) bits_here_p), some (.ow (cDic P w (kTup (ksC (kTup (ksC kInt (ks1 kInt))) (ks1 (kTup (ksC kInt (ks1 kInt)))))) yStr) s4.1), some (.pl yInt s4.2), some (.pl (yTup (tysC yInt (tysC yCn (tys1 yCn)))) row_3), some (.pl yCn p_5), some (.pl yCn q_6), some (.pl yStr s8), some (.ow (cLst yStr) options_10), none, none]) (ds_setF (i := 9) sc.nd rfl (.inl rfl) (de_lst (T := yStr) (dl_nil))) (fun (options_10 : (List PySem.Str)) => ds_cons (ρ1 := fun (s25 : (List PySem.Str)) => [some (.pl yCn board_here_p), some (.pl (yDic P w (kTup (ksC (kTup (ksC kInt (ks1 kInt))) (ks1 (kTup (ksC kInt (ks1 kInt)))))) yStr) forced_p), some (.pl (yLst yInt) bits_here_p), some (.ow (cDic P w (kTup (ksC (kTup (ksC kInt (ks1 kInt))) (ks1 (kTup (ksC kInt (ks1 kInt)))))) yStr) s4.1), some (.pl yInt s4.2), some (.pl (yTup (tysC yInt (tysC yCn (tys1 yCn)))) row_3), some (.pl yCn p_5), some (.pl yCn q_6), some (.pl yStr s8), some (.ow (cLst yStr) s25), none, none]) (ds_forS (eH := fun (s12 : (List PySem.Str)) => [some (.pl yCn board_here_p), some (.pl (yDic P w (kTup (ksC (kTup (ksC kInt (ks1 kInt))) (ks1 (kTup (ksC kInt (ks1 kInt)))))) yStr) forced_p), some (.pl (yLst yInt) bits_here_p), some (.ow (cDic P w (kTup (ksC (kTup (ksC kInt (ks1 kInt))) (ks1 (kTup (ksC kInt (ks1 kInt)))))) yStr) s4.1), some (.pl yInt s4.2), some (.pl (yTup (tysC yInt (tysC yCn (tys1 yCn)))) row_3), some (.pl yCn p_5), some (.pl yCn q_6), some (.pl yStr s8), some (.ow (cLst yStr) s12), none, none]) (eB := fun (s12 : (List PySem.Str)) (letter_here_11 : PySem.Str) => [some (.pl yCn board_here_p), some (.pl (yDic P w (kTup (ksC (kTup (ksC kInt (ks1 kInt))) (ks1 (kTup (ksC kInt (ks1 kInt)))))) yStr) forced_p), some (.pl (yLst yInt) bits_here_p), some (.ow (cDic P w (kTup (ksC (kTup (ksC kInt (ks1 kInt))) (ks1 (kTup (ksC kInt (ks1 kInt)))))) yStr) s4.1), some (.pl yInt s4.2), some (.pl (yTup (tysC yInt (tysC yCn (tys1 yCn)))) row_3), some (.pl yCn p_5), some (.pl yCn q_6), some (.pl yStr s8), some (.ow (cLst yStr) s12), some (.pl yStr letter_here_11), none]) (a0 := options_10) (passes_of rfl) rfl (di_list (DE.fpL (de_lst (T := yStr) (dl_cons (de_c (T := yStr) (a := ("E" : PySem.Str)) pe_str (fun _ => ⟨rfl, by decide +kernel⟩)) (dl_cons (de_var (pv 8) rfl) (dl_nil)))))) (.keep (.keep (.keep (.keep (.keep (.keep (.keep (.keep (.keep (.keep (.keep (.keep .nil)))))))))))) (fun (s12 : (List PySem.Str)) => dg_name (pg_name (i := 10) sc.nd rfl (.inl rfl))) (fun (s12 : (List PySem.Str)) (letter_here_11 : PySem.Str) => ds_cons (ρ1 := fun (line_here_13 : (List (Int × Int))) => [some (.pl yCn board_here_p), some (.pl (yDic P w (kTup (ksC (kTup (ksC kInt (ks1 kInt))) (ks1 (kTup (ksC kInt (ks1 kInt)))))) yStr) forced_p), some (.pl (yLst yInt) bits_here_p), some (.ow (cDic P w (kTup (ksC (kTup (ksC kInt (ks1 kInt))) (ks1 (kTup (ksC kInt (ks1 kInt)))))) yStr) s4.1), some (.pl yInt s4.2), some (.pl (yTup (tysC yInt (tysC yCn (tys1 yCn)))) row_3), some (.pl yCn p_5), some (.pl yCn q_6), some (.pl yStr s8), some (.ow (cLst yStr) s12), some (.pl yStr letter_here_11), some (.ow (cLst yCn) line_here_13)]) (ds_setF (i := 11) sc.nd rfl (.inl rfl) (de_catL (imm_tup (imm_C imm_int (imm_1 imm_int))) (DE.fpL (de_lst (T := yCn) (dl_cons (de_var (pv 6) rfl) (dl_nil)))) (DE.fpL (de_callF c_walk.ok (hr.mono (by decide)) rfl c_walk.mg c_walk.kp c_walk.bd passC (da_cons (de_ownD (pv 3) rfl) (da_cons (de_call c_moved.ok (hr.mono (by decide)) rfl c_moved.mg c_moved.kp c_moved.bd passC (da_cons (de_var (pv 6) rfl) (da_one (de_var (pv 10) rfl))) (imm_tup (imm_C imm_int (imm_1 imm_int))) (wkN rfl)) (da_one (de_var (pv 7) rfl)))) (imm_cLst (imm_tup (imm_C imm_int (imm_1 imm_int)))) (wkN rfl))))) (fun (line_here_13 : (List (Int × Int))) => ds_one (ds_if1 (DQ.dt (dq_eqS (de_call c_letter.ok (hr.mono (by decide)) rfl c_letter.mg c_letter.kp c_letter.bd passC (da_cons (de_ownD (pv 3) rfl) (da_cons (de_var (pv 6) rfl) (da_one (de_ixL (de_ownL (pv 11) rfl) (de_neg (de_c (T := yInt) (a := (2 : Int)) pe_int (fun _ => rfl))))))) imm_str (wkN rfl)) (de_var (pv 10) rfl))) (ds_cons (ρ1 := fun (c23 : PySem.Str) => [some (.pl yCn board_here_p), some (.pl (yDic P w (kTup (ksC (kTup (ksC kInt (ks1 kInt))) (ks1 (kTup (ksC kInt (ks1 kInt)))))) yStr) forced_p), some (.pl (yLst yInt) bits_here_p), some (.ow (cDic P w (kTup (ksC (kTup (ksC kInt (ks1 kInt))) (ks1 (kTup (ksC kInt (ks1 kInt)))))) yStr) s4.1), some (.pl yInt s4.2), some (.pl (yTup (tysC yInt (tysC yCn (tys1 yCn)))) row_3), some (.pl yCn p_5), some (.pl yCn q_6), some (.pl yStr s8), some (.ow (cLst yStr) (s12 ++ [c23])), some (.pl yStr letter_here_11), some (.ow (cLst yCn) line_here_13)]) (ds_append (pv 9) rfl (de_var (pv 10) rfl)) (fun (c23 : PySem.Str) => ds_nil (c := (s12 ++ [c23])) (by first | exact .inl rfl | exact .inr rfl) (.keep (.keep (.keep (.keep (.keep (.keep (.keep (.keep (.keep (.keep (.drop (.drop .nil)))))))))))))) (ds_nil (c := s12) (by first | exact .inl rfl | exact .inr rfl) (.keep (.keep (.keep (.keep (.keep (.keep (.keep (.keep (.keep (.keep (.drop (.drop .nil))))))))))))))))) (fun (s25 : (List PySem.Str)) => ds_one (ds_if1 (DQ.dt (dq_inN ar_tup (u64 hr) (de_tup (dp_cons (de_var (pv 6) rfl) (dp_one (de_var (pv 7) rfl)))) (de_var (pv 1) rfl))) (ds_cons (ρ1 := fun (c26 : (((Int × Int) × (Int × Int)) × PySem.Str)) => [some (.pl yCn board_here_p), some (.pl (yDic P w (kTup (ksC (kTup (ksC kInt (ks1 kInt))) (ks1 (kTup (ksC kInt (ks1 kInt)))))) yStr) forced_p), some (.pl (yLst yInt) bits_here_p), some (.ow (cDic P w (kTup (ksC (kTup (ksC kInt (ks1 kInt))) (ks1 (kTup (ksC kInt (ks1 kInt)))))) yStr) (dput s4.1 c26.1 c26.2)), some (.pl yInt s4.2), some (.pl (yTup (tysC yInt (tysC yCn (tys1 yCn)))) row_3), some (.pl yCn p_5), some (.pl yCn q_6), some (.pl yStr s8), some (.ow (cLst yStr) s25), none, none]) (ds_setN ar_tup (u64 hr) (pv 3) rfl (de_tup (dp_cons (de_var (pv 6) rfl) (dp_one (de_var (pv 7) rfl)))) (de_getN ar_tup (u64 hr) (de_var (pv 1) rfl) (de_tup (dp_cons (de_var (pv 6) rfl) (dp_one (de_var (pv 7) rfl)))))) (fun (c26 : (((Int × Int) × (Int × Int)) × PySem.Str)) => ds_nil (c := ((dput s4.1 c26.1 c26.2), s4.2)) (by first | exact .inl rfl | exact .inr rfl) (.keep (.keep (.keep (.keep (.keep (.drop (.drop (.drop (.drop (.drop (.keep (.keep .nil)))))))))))))) (ds_one (ds_if1 (DQ.dt (dq_eqI (de_len len_lst rfl bt.len (de_ownL (pv 9) rfl)) (de_c (T := yInt) (a := (1 : Int)) pe_int (fun _ => rfl)))) (ds_cons (ρ1 := fun (c28 : (((Int × Int) × (Int × Int)) × PySem.Str)) => [some (.pl yCn board_here_p), some (.pl (yDic P w (kTup (ksC (kTup (ksC kInt (ks1 kInt))) (ks1 (kTup (ksC kInt (ks1 kInt)))))) yStr) forced_p), some (.pl (yLst yInt) bits_here_p), some (.ow (cDic P w (kTup (ksC (kTup (ksC kInt (ks1 kInt))) (ks1 (kTup (ksC kInt (ks1 kInt)))))) yStr) (dput s4.1 c28.1 c28.2)), some (.pl yInt s4.2), some (.pl (yTup (tysC yInt (tysC yCn (tys1 yCn)))) row_3), some (.pl yCn p_5), some (.pl yCn q_6), some (.pl yStr s8), some (.ow (cLst yStr) s25), none, none]) (ds_setN ar_tup (u64 hr) (pv 3) rfl (de_tup (dp_cons (de_var (pv 6) rfl) (dp_one (de_var (pv 7) rfl)))) (DE.bp (de_ixL (de_ownL (pv 9) rfl) (de_c (T := yInt) (a := (0 : Int)) pe_int (fun _ => rfl))) imm_str)) (fun (c28 : (((Int × Int) × (Int × Int)) × PySem.Str)) => ds_nil (c := ((dput s4.1 c28.1 c28.2), s4.2)) (by first | exact .inl rfl | exact .inr rfl) (.keep (.keep (.keep (.keep (.keep (.drop (.drop (.drop (.drop (.drop (.keep (.keep .nil)))))))))))))) (ds_cons (ρ1 := fun (c32 : (((Int × Int) × (Int × Int)) × PySem.Str)) => [some (.pl yCn board_here_p), some (.pl (yDic P w (kTup (ksC (kTup (ksC kInt (ks1 kInt))) (ks1 (kTup (ksC kInt (ks1 kInt)))))) yStr) forced_p), some (.pl (yLst yInt) bits_here_p), some (.ow (cDic P w (kTup (ksC (kTup (ksC kInt (ks1 kInt))) (ks1 (kTup (ksC kInt (ks1 kInt)))))) yStr) (dput s4.1 c32.1 c32.2)), some (.pl yInt s4.2), some (.pl (yTup (tysC yInt (tysC yCn (tys1 yCn)))) row_3), some (.pl yCn p_5), some (.pl yCn q_6), some (.pl yStr s8), some (.ow (cLst yStr) s25), none, none]) (ds_setN ar_tup (u64 hr) (pv 3) rfl (de_tup (dp_cons (de_var (pv 6) rfl) (dp_one (de_var (pv 7) rfl)))) (DE.bp (de_ixL (de_ownL (pv 9) rfl) (de_ixL (de_var (pv 2) rfl) (de_mod (de_var (pv 4) rfl) (de_len len_lst rfl bt.len (de_var (pv 2) rfl))))) imm_str)) (fun (c32 : (((Int × Int) × (Int × Int)) × PySem.Str)) => ds_cons (ρ1 := fun (k_34 : Int) => [some (.pl yCn board_here_p), some (.pl (yDic P w (kTup (ksC (kTup (ksC kInt (ks1 kInt))) (ks1 (kTup (ksC kInt (ks1 kInt)))))) yStr) forced_p), some (.pl (yLst yInt) bits_here_p), some (.ow (cDic P w (kTup (ksC (kTup (ksC kInt (ks1 kInt))) (ks1 (kTup (ksC kInt (ks1 kInt)))))) yStr) (dput s4.1 c32.1 c32.2)), some (.pl yInt k_34), some (.pl (yTup (tysC yInt (tysC yCn (tys1 yCn)))) row_3), some (.pl yCn p_5), some (.pl yCn q_6), some (.pl yStr s8), some (.ow (cLst yStr) s25), none, none]) (ds_set (i := 4) sc.nd rfl (.inl rfl) (de_add (de_var (pv 4) rfl) (de_c (T := yInt) (a := (1 : Int)) pe_int (fun _ => rfl)))) (fun (k_34 : Int) => ds_nil (c := ((dput s4.1 c32.1 c32.2), k_34)) (by first | exact .inl rfl | exact .inr rfl) (.keep (.keep (.keep (.keep (.keep (.drop (.drop (.drop (.drop (.drop (.keep (.keep .nil)))))))))))))))))))))))))) (fun (s36 : ((List (((Int × Int) × (Int × Int)) × PySem.Str)) × Int)) => ds_one (ds_retO (c := s36.1) (pv 3) rfl rfl))))) (by unfold m_fill; simp only [bo, isIn_dec, andok, orok]), fun _ => .inl rfl⟩
def m_law (script_p : (List Int)) : R Er Bool := (((m_cell script_p (0 : Int))).bind fun v2 => (m_some_board v2)).bind fun (board_here_1 : (Int × Int)) =>
  (((((m_bits script_p (1 : Int))).bind fun v4 => R.ok (([] : List (((Int × Int) × (Int × Int)) × PySem.Str)), v4)).bind fun v5 => R.ok (board_here_1, v5)).bind fun v6 => (m_fill v6.1 v6.2.1 v6.2.2)).bind fun (table_3 : (List (((Int × Int) × (Int × Int)) × PySem.Str))) =>
  ((m_texts board_here_1 table_3)).bind fun (texts_here_7 : (PySem.Str × PySem.Str)) =>
  ((m_Plane_init board_here_1 texts_here_7.1 texts_here_7.2)).bind fun (plane_8 : ((((Unit × (Int × Int)) × PySem.Str) × PySem.Str) × (List (((Int × Int) × (Int × Int)) × PySem.Str)))) =>
  (((((m_cell script_p (3 : Int))).bind fun v10 => R.ok (table_3, v10)).bind fun v11 => R.ok (board_here_1, v11)).bind fun v12 => (m_given v12.1 v12.2.1 v12.2.2)).bind fun (given_here_9 : (List (Int × Int))) =>
  ((m_closure table_3 given_here_9)).bind fun (closed_13 : (List (Int × Int))) =>
  (((m_closes plane_8 table_3 given_here_9 closed_13)).bind fun v14 => R.ok (!v14)).bind fun v59 => if v59 then (R.ok false) else
  (((((m_cell script_p (4 : Int))).bind fun v16 => R.ok (v16, ([(12 : Int), (12 : Int), (20 : Int)] : List Int))).bind fun v17 => (m_draws v17.1 v17.2)).bind fun (d_15 : (List Int)) =>
  ((((((rIx d_15 (0 : Int))).bind fun v19 => (rMod v19 ((List.length given_here_9 : Int) + (1 : Int)))).bind fun v20 => R.ok (some v20)).bind fun v21 => R.ok (cut given_here_9 v21 none)).bind fun v22 => (rCatL v22 (List.reverse given_here_9))).bind fun (turned_18 : (List (Int × Int))) =>
  ((((m_closes plane_8 table_3 turned_18 closed_13)).bind fun v23 => R.ok (!v23)).bind fun v25 => (if v25 then R.ok true else ((m_closes plane_8 table_3 closed_13 closed_13)).bind fun v24 => R.ok (!v24))).bind fun v58 => if v58 then (R.ok false) else
  (((m_without_doubles board_here_1 given_here_9)).bind fun (row_26 : (List (Int × Int))) =>
  (((((m_open_pair plane_8 given_here_9)).bind fun v27 => ((m_open table_3 row_26)).bind fun v28 => R.ok (v27, v28)).bind fun v29 => (m_is_open v29.1 v29.2)).bind fun v30 => R.ok (!v30)).bind fun v57 => if v57 then (R.ok false) else
  ((((((m_open_pair plane_8 row_26)).bind fun v31 => R.ok (Option.isNone v31)).bind fun v32 => R.ok (!decide (v32 = (decide (row_26 = closed_13))))).bind fun v34 => (if v34 then R.ok true else ((m_open_pair plane_8 (List.reverse closed_13))).bind fun v33 => R.ok (Option.isSome v33))).bind fun v56 => if v56 then (R.ok false) else
  ((((rIx d_15 (2 : Int))).bind fun v36 => (rMod v36 (if (List.length closed_13 : Int) > (1 : Int) then (List.length closed_13 : Int) else (1 : Int)))).bind fun (at_35 : Int) =>
  ((rCatL (cut closed_13 none (some at_35)) (cut closed_13 (some (at_35 + (1 : Int))) none))).bind fun (less_37 : (List (Int × Int))) =>
  (((((m_open_pair plane_8 less_37)).bind fun v38 => ((m_open table_3 less_37)).bind fun v39 => R.ok (v38, v39)).bind fun v40 => (m_is_open v40.1 v40.2)).bind fun v41 => R.ok (!v41)).bind fun v55 => if v55 then (R.ok false) else
  ((((((rIx d_15 (1 : Int))).bind fun v43 => (rMod v43 ((List.length given_here_9 : Int) + (1 : Int)))).bind fun v44 => R.ok (some v44)).bind fun v45 => R.ok (cut given_here_9 none v45)).bind fun (part_42 : (List (Int × Int))) =>
  ((m_closure_own_2 plane_8 part_42)).bind fun (inner_46 : (List (Int × Int))) =>
  (((((m_closure table_3 part_42)).bind fun v47 => R.ok (inner_46, v47)).bind fun v48 => (m_is_row v48.1 v48.2)).bind fun v49 => R.ok (!v49)).bind fun v54 => if v54 then (R.ok false) else
  (((((lcR (fun (corner_50 : (Int × Int)) => (R.ok (!memB corner_50 closed_13))) (fun (corner_50 : (Int × Int)) => (R.ok corner_50)) inner_46)).bind fun v51 => R.ok (List.length v51 : Int)).bind fun v52 => R.ok (decide (v52 = (0 : Int)))).bind fun v53 => R.ok v53))))))
abbrev sp_law (P : Program) (w : World) (K : PySem.W.Frag) : Sp := spD (K := K) EX (tys1 (yScr yInt)) (qP (K := K) yBl) (fun a => m_law a)
theorem sc_law : FnScope ["_law_script", "_law_board_here", "_law_table", "_law_texts_here", "_law_plane", "_law_given_here", "_law_closed", "_law_d", "_law_turned", "_law_row", "_law_at", "_law_less", "_law_part", "_law_inner", "_law_corner"] ["_law_script"] (defScope s_law) := ⟨rfl, rfl, rfl, by decide +kernel, rfl, by decide +kernel, by decide +kernel⟩
theorem ok_law {P : Program} {w : World} {K : PySem.W.Frag} {mg : Str → Option Value} {base : Heap} {f : Addr} {fd : FuncData} (F : FnP K "law" s_law f fd) (c_cell : Cal P w K mg base CX 1 "_law_cell" ["_law_script", "_law_k"] (sp_cell P w K)) (c_some_board : Cal P w K mg base CX 3 "_law_some_board" ["_law_cell_here"] (sp_some_board P w K)) (c_bits : Cal P w K mg base CX 2 "_law_bits" ["_law_script", "_law_k"] (sp_bits P w K)) (c_fill : Cal P w K mg base CX 3 "_law_fill" ["_law_board_here", "_law_forced", "_law_bits_here"] (sp_fill P w K)) (c_texts : Cal P w K mg base CX 1 "_law_texts" ["_law_board_here", "_law_table"] (sp_texts P w K)) (c_Plane_init : Mkr P w K mg base CX 8 "Plane" ["self", "board", "rising", "falling"] (sp_Plane_init P w K)) (c_given : Cal P w K mg base CX 4 "_law_given" ["_law_board_here", "_law_table", "_law_cell_here"] (sp_given P w K)) (c_closure : Cal P w K mg base CX 4 "_law_closure" ["_law_table", "_law_corners"] (sp_closure P w K)) (c_closes : Cal P w K mg base CX 7 "_law_closes" ["_law_plane", "_law_table", "_law_corners", "_law_closed"] (sp_closes P w K)) (c_draws : Cal P w K mg base CX 1 "_law_draws" ["_law_cell_here", "_law_sizes"] (sp_draws P w K)) (c_without_doubles : Cal P w K mg base CX 2 "_law_without_doubles" ["_law_board_here", "_law_corners"] (sp_without_doubles P w K)) (c_open_pair : Cal P w K mg base CX 5 "open_pair" ["plane", "corners"] (sp_open_pair P w K)) (c_open : Cal P w K mg base CX 4 "_law_open" ["_law_table", "_law_row"] (sp_open P w K)) (c_is_open : Cal P w K mg base CX 4 "_law_is_open" ["_law_told", "_law_wanted"] (sp_is_open P w K)) (c_closure_own_2 : Cal P w K mg base CX 6 "closure" ["plane", "corners"] (sp_closure_own_2 P w K)) (c_is_row : Cal P w K mg base CX 3 "_law_is_row" ["_law_told", "_law_wanted"] (sp_is_row P w K)) (oc : OC K) (bt : Bt mg) : FnOk P w K mg base CX 10 f fd ["_law_script"] (sp_law P w K) := by
  refine fn_ok F sc_law (ent1 rfl) rfl fun cdv A outer s H E hr script_p => ?_
  have sc := sc_law
  exact ⟨_, fun c => .rt (qP (K := K) yBl c), DS.cast (m' := m_law script_p) (ds_cons (ρ1 := fun (board_here_1 : (Int × Int)) => [some (.pl (yScr yInt) script_p), some (.pl yCn board_here_1), none, none, none, none, none, none, none, none, none, none, none, none, none]) (ds_set (i := 1) sc.nd rfl (.inl rfl) (de_call c_some_board.ok (hr.mono (by decide)) rfl c_some_board.mg c_some_board.kp c_some_board.bd passC (da_one (de_call c_cell.ok (hr.mono (by decide)) rfl c_cell.mg c_cell.kp c_cell.bd passC (da_cons (de_var (pv 0) rfl) (da_one (de_c (T := yInt) (a := (0 : Int)) pe_int (fun _ => rfl)))) imm_int (wkN rfl))) (imm_tup (imm_C imm_int (imm_1 imm_int))) (wkN rfl))) (fun (board_here_1 : (Int × Int)) => ds_cons (ρ1 := fun (table_3 : (List (((Int × Int) × (Int × Int)) × PySem.Str))) => [some (.pl (yScr yInt) script_p), some (.pl yCn board_here_1), some (.ow (cDic P w (kTup (ksC (kTup (ksC kInt (ks1 kInt))) (ks1 (kTup (ksC kInt (ks1 kInt)))))) yStr) table_3), none, none, none, none, none, none, none, none, none, none, none, none]) (ds_setF (i := 2) sc.nd rfl (.inl rfl) (de_callF c_fill.ok (hr.mono (by decide)) rfl c_fill.mg c_fill.kp c_fill.bd passC (da_cons (de_var (pv 1) rfl) (da_cons (DE.fp (de_newN (k := (kTup (ksC (kTup (ksC kInt (ks1 kInt))) (ks1 (kTup (ksC kInt (ks1 kInt))))))) (U := yStr)) (fun h => h)) (da_one (DE.fpL (de_callF c_bits.ok (hr.mono (by decide)) rfl c_bits.mg c_bits.kp c_bits.bd passC (da_cons (de_var (pv 0) rfl) (da_one (de_c (T := yInt) (a := (1 : Int)) pe_int (fun _ => rfl)))) (imm_cLst imm_int) (wkN rfl)))))) (imm_cDic (imm_tup (imm_C (imm_tup (imm_C imm_int (imm_1 imm_int))) (imm_1 (imm_tup (imm_C imm_int (imm_1 imm_int)))))) imm_str) (wkN rfl))) (fun (table_3 : (List (((Int × Int) × (Int × Int)) × PySem.Str))) => ds_cons (ρ1 := fun (texts_here_7 : (PySem.Str × PySem.Str)) => [some (.pl (yScr yInt) script_p), some (.pl yCn board_here_1), some (.ow (cDic P w (kTup (ksC (kTup (ksC kInt (ks1 kInt))) (ks1 (kTup (ksC kInt (ks1 kInt)))))) yStr) table_3), some (.pl (yTup (tysC yStr (tys1 yStr))) texts_here_7), none, none, none, none, none, none, none, none, none, none, none]) (ds_set (i := 3) sc.nd rfl (.inl rfl) (de_call c_texts.ok (hr.mono (by decide)) rfl c_texts.mg c_texts.kp c_texts.bd passC (da_cons (de_var (pv 1) rfl) (da_one (de_ownD (pv 2) rfl))) (imm_tup (imm_C imm_str (imm_1 imm_str))) (wkN rfl))) (fun (texts_here_7 : (PySem.Str × PySem.Str)) => ds_cons (ρ1 := fun (plane_8 : ((((Unit × (Int × Int)) × PySem.Str) × PySem.Str) × (List (((Int × Int) × (Int × Int)) × PySem.Str)))) => [some (.pl (yScr yInt) script_p), some (.pl yCn board_here_1), some (.ow (cDic P w (kTup (ksC (kTup (ksC kInt (ks1 kInt))) (ks1 (kTup (ksC kInt (ks1 kInt)))))) yStr) table_3), some (.pl (yTup (tysC yStr (tys1 yStr))) texts_here_7), some (.pl (yObj "Plane" ["board", "rising", "falling", "letters"] (tysL (tysL (tysL (tysL tys0 yCn) yStr) yStr) (yDic P w (kTup (ksC (kTup (ksC kInt (ks1 kInt))) (ks1 (kTup (ksC kInt (ks1 kInt)))))) yStr))) plane_8), none, none, none, none, none, none, none, none, none, none]) (ds_set (i := 4) sc.nd rfl (.inl rfl) (de_mk c_Plane_init (hr.mono (by decide)) rfl passC (dp_cons (de_var (pv 1) rfl) (dp_cons (de_nth (de_var (pv 3) rfl) nth_0) (dp_one (de_nth (de_var (pv 3) rfl) (nth_s nth_1))))) (wkN rfl))) (fun (plane_8 : ((((Unit × (Int × Int)) × PySem.Str) × PySem.Str) × (List (((Int × Int) × (Int × Int)) × PySem.Str)))) => ds_cons (ρ1 := fun (given_here_9 : (List (Int × Int))) => [some (.pl (yScr yInt) script_p), some (.pl yCn board_here_1), some (.ow (cDic P w (kTup (ksC (kTup (ksC kInt (ks1 kInt))) (ks1 (kTup (ksC kInt (ks1 kInt)))))) yStr) table_3), some (.pl (yTup (tysC yStr (tys1 yStr))) texts_here_7), some (.pl (yObj "Plane" ["board", "rising", "falling", "letters"] (tysL (tysL (tysL (tysL tys0 yCn) yStr) yStr) (yDic P w (kTup (ksC (kTup (ksC kInt (ks1 kInt))) (ks1 (kTup (ksC kInt (ks1 kInt)))))) yStr))) plane_8), some (.ow (cLst yCn) given_here_9), none, none, none, none, none, none, none, none, none]) (ds_setF (i := 5) sc.nd rfl (.inl rfl) (de_callF c_given.ok (hr.mono (by decide)) rfl c_given.mg c_given.kp c_given.bd passC (da_cons (de_var (pv 1) rfl) (da_cons (de_ownD (pv 2) rfl) (da_one (de_call c_cell.ok (hr.mono (by decide)) rfl c_cell.mg c_cell.kp c_cell.bd passC (da_cons (de_var (pv 0) rfl) (da_one (de_c (T := yInt) (a := (3 : Int)) pe_int (fun _ => rfl)))) imm_int (wkN rfl))))) (imm_cLst (imm_tup (imm_C imm_int (imm_1 imm_int)))) (wkN rfl))) (fun (given_here_9 : (List (Int × Int))) => ds_cons (ρ1 := fun (closed_13 : (List (Int × Int))) => [some (.pl (yScr yInt) script_p), some (.pl yCn board_here_1), some (.ow (cDic P w (kTup (ksC (kTup (ksC kInt (ks1 kInt))) (ks1 (kTup (ksC kInt (ks1 kInt)))))) yStr) table_3), some (.pl (yTup (tysC yStr (tys1 yStr))) texts_here_7), some (.pl (yObj "Plane" ["board", "rising", "falling", "letters"] (tysL (tysL (tysL (tysL tys0 yCn) yStr) yStr) (yDic P w (kTup (ksC (kTup (ksC kInt (ks1 kInt))) (ks1 (kTup (ksC kInt (ks1 kInt)))))) yStr))) plane_8), some (.ow (cLst yCn) given_here_9), some (.ow (cLst yCn) closed_13), none, none, none, none, none, none, none, none]) (ds_setF (i := 6) sc.nd rfl (.inr rfl) (de_callF c_closure.ok (hr.mono (by decide)) rfl c_closure.mg c_closure.kp c_closure.bd passC (da_cons (de_ownD (pv 2) rfl) (da_one (de_ownL (pv 5) rfl))) (imm_cLst (imm_tup (imm_C imm_int (imm_1 imm_int)))) (wkN rfl))) (fun (closed_13 : (List (Int × Int))) => ds_ift (dt_not (dt_val (de_call c_closes.ok (hr.mono (by decide)) rfl c_closes.mg c_closes.kp c_closes.bd passC (da_cons (de_var (pv 4) rfl) (da_cons (de_ownD (pv 2) rfl) (da_cons (de_ownL (pv 5) rfl) (da_one (de_ownL (pv 6) rfl))))) imm_bl (wkN rfl)))) (ds_one (ds_ret (f := (fun a => a)) (de_c (T := yBl) (a := false) pe_bl (fun _ => rfl)) (fun _ => rfl))) (fun _ => rfl) (ds_cons (ρ1 := fun (d_15 : (List Int)) => [some (.pl (yScr yInt) script_p), some (.pl yCn board_here_1), some (.ow (cDic P w (kTup (ksC (kTup (ksC kInt (ks1 kInt))) (ks1 (kTup (ksC kInt (ks1 kInt)))))) yStr) table_3), some (.pl (yTup (tysC yStr (tys1 yStr))) texts_here_7), some (.pl (yObj "Plane" ["board", "rising", "falling", "letters"] (tysL (tysL (tysL (tysL tys0 yCn) yStr) yStr) (yDic P w (kTup (ksC (kTup (ksC kInt (ks1 kInt))) (ks1 (kTup (ksC kInt (ks1 kInt)))))) yStr))) plane_8), some (.ow (cLst yCn) given_here_9), some (.ow (cLst yCn) closed_13), some (.ow (cLst yInt) d_15), none, none, none, none, none, none, none]) (ds_setF (i := 7) sc.nd rfl (.inl rfl) (de_callF c_draws.ok (hr.mono (by decide)) rfl c_draws.mg c_draws.kp c_draws.bd passC (da_cons (de_call c_cell.ok (hr.mono (by decide)) rfl c_cell.mg c_cell.kp c_cell.bd passC (da_cons (de_var (pv 0) rfl) (da_one (de_c (T := yInt) (a := (4 : Int)) pe_int (fun _ => rfl)))) imm_int (wkN rfl)) (da_one (DE.fpL (de_lst (T := yInt) (dl_cons (de_c (T := yInt) (a := (12 : Int)) pe_int (fun _ => rfl)) (dl_cons (de_c (T := yInt) (a := (12 : Int)) pe_int (fun _ => rfl)) (dl_cons (de_c (T := yInt) (a := (20 : Int)) pe_int (fun _ => rfl)) (dl_nil)))))))) (imm_cLst imm_int) (wkN rfl))) (fun (d_15 : (List Int)) => ds_cons (ρ1 := fun (turned_18 : (List (Int × Int))) => [some (.pl (yScr yInt) script_p), some (.pl yCn board_here_1), some (.ow (cDic P w (kTup (ksC (kTup (ksC kInt (ks1 kInt))) (ks1 (kTup (ksC kInt (ks1 kInt)))))) yStr) table_3), some (.pl (yTup (tysC yStr (tys1 yStr))) texts_here_7), some (.pl (yObj "Plane" ["board", "rising", "falling", "letters"] (tysL (tysL (tysL (tysL tys0 yCn) yStr) yStr) (yDic P w (kTup (ksC (kTup (ksC kInt (ks1 kInt))) (ks1 (kTup (ksC kInt (ks1 kInt)))))) yStr))) plane_8), some (.ow (cLst yCn) given_here_9), some (.ow (cLst yCn) closed_13), some (.ow (cLst yInt) d_15), some (.ow (cLst yCn) turned_18), none, none, none, none, none, none]) (ds_setF (i := 8) sc.nd rfl (.inl rfl) (de_catL (imm_tup (imm_C imm_int (imm_1 imm_int))) (DE.fpL (de_sliceL (imm_tup (imm_C imm_int (imm_1 imm_int))) (de_ownL (pv 5) rfl) (do_some (de_mod (de_int1 rfl bt.int (de_ixL (de_ownL (pv 7) rfl) (de_c (T := yInt) (a := (0 : Int)) pe_int (fun _ => rfl)))) (de_add (de_len len_lst rfl bt.len (de_ownL (pv 5) rfl)) (de_c (T := yInt) (a := (1 : Int)) pe_int (fun _ => rfl))))) (do_none))) (DE.fpL (de_rev (imm_tup (imm_C imm_int (imm_1 imm_int))) (de_ownL (pv 5) rfl))))) (fun (turned_18 : (List (Int × Int))) => ds_ift (DW.dt (dw_or (dt_not (dt_val (de_call c_closes.ok (hr.mono (by decide)) rfl c_closes.mg c_closes.kp c_closes.bd passC (da_cons (de_var (pv 4) rfl) (da_cons (de_ownD (pv 2) rfl) (da_cons (de_ownL (pv 8) rfl) (da_one (de_ownL (pv 6) rfl))))) imm_bl (wkN rfl)))) (dw_or1 (dt_not (dt_val (de_call c_closes.ok (hr.mono (by decide)) rfl c_closes.mg c_closes.kp c_closes.bd passC (da_cons (de_var (pv 4) rfl) (da_cons (de_ownD (pv 2) rfl) (da_cons (de_ownL (pv 6) rfl) (da_one (de_ownL (pv 6) rfl))))) imm_bl (wkN rfl))))))) (ds_one (ds_ret (f := (fun a => a)) (de_c (T := yBl) (a := false) pe_bl (fun _ => rfl)) (fun _ => rfl))) (fun _ => rfl) (ds_cons (ρ1 := fun (row_26 : (List (Int × Int))) => [some (.pl (yScr yInt) script_p), some (.pl yCn board_here_1), some (.ow (cDic P w (kTup (ksC (kTup (ksC kInt (ks1 kInt))) (ks1 (kTup (ksC kInt (ks1 kInt)))))) yStr) table_3), some (.pl (yTup (tysC yStr (tys1 yStr))) texts_here_7), some (.pl (yObj "Plane" ["board", "rising", "falling", "letters"] (tysL (tysL (tysL (tysL tys0 yCn) yStr) yStr) (yDic P w (kTup (ksC (kTup (ksC kInt (ks1 kInt))) (ks1 (kTup (ksC kInt (ks1 kInt)))))) yStr))) plane_8), some (.ow (cLst yCn) given_here_9), some (.ow (cLst yCn) closed_13), some (.ow (cLst yInt) d_15), some (.ow (cLst yCn) turned_18), some (.ow (cLst yCn) row_26), none, none, none, none, none]) (ds_setF (i := 9) sc.nd rfl (.inl rfl) (de_callF c_without_doubles.ok (hr.mono (by decide)) rfl c_without_doubles.mg c_without_doubles.kp c_without_doubles.bd passC (da_cons (de_var (pv 1) rfl) (da_one (de_ownL (pv 5) rfl))) (imm_cLst (imm_tup (imm_C imm_int (imm_1 imm_int)))) (wkN rfl))) (fun (row_26 : (List (Int × Int))) => ds_ift (dt_not (dt_val (de_call c_is_open.ok (hr.mono (by decide)) rfl c_is_open.mg c_is_open.kp c_is_open.bd passC (da_cons (de_call c_open_pair.ok (hr.mono (by decide)) rfl c_open_pair.mg c_open_pair.kp c_open_pair.bd passC (da_cons (de_var (pv 4) rfl) (da_one (DE.fpL (de_list1 sq_lst (imm_tup (imm_C imm_int (imm_1 imm_int))) rfl bt.list (de_ownL (pv 5) rfl))))) (imm_opt (imm_tup (imm_C (imm_tup (imm_C imm_int (imm_1 imm_int))) (imm_C (imm_tup (imm_C imm_int (imm_1 imm_int))) (imm_1 (imm_tup (imm_C imm_int (imm_1 imm_int)))))))) (wkN rfl)) (da_one (de_call c_open.ok (hr.mono (by decide)) rfl c_open.mg c_open.kp c_open.bd passC (da_cons (de_ownD (pv 2) rfl) (da_one (de_ownL (pv 9) rfl))) (imm_opt (imm_tup (imm_C (imm_tup (imm_C imm_int (imm_1 imm_int))) (imm_C (imm_tup (imm_C imm_int (imm_1 imm_int))) (imm_1 (imm_tup (imm_C imm_int (imm_1 imm_int)))))))) (wkN rfl)))) imm_bl (wkN rfl)))) (ds_one (ds_ret (f := (fun a => a)) (de_c (T := yBl) (a := false) pe_bl (fun _ => rfl)) (fun _ => rfl))) (fun _ => rfl) (ds_ift (DW.dt (dw_or (DQ.dt (dq_ne q_bl (u64 hr) (lo rfl) (lo rfl) (DQ.de (dq_isN (μ := .p) (T := (yTup (tysC yCn (tysC yCn (tys1 yCn))))) (by exact de_call c_open_pair.ok (hr.mono (by decide)) rfl c_open_pair.mg c_open_pair.kp c_open_pair.bd passC (da_cons (de_var (pv 4) rfl) (da_one (DE.fpL (de_list1 sq_lst (imm_tup (imm_C imm_int (imm_1 imm_int))) rfl bt.list (de_ownL (pv 9) rfl))))) (imm_opt (imm_tup (imm_C (imm_tup (imm_C imm_int (imm_1 imm_int))) (imm_C (imm_tup (imm_C imm_int (imm_1 imm_int))) (imm_1 (imm_tup (imm_C imm_int (imm_1 imm_int)))))))) (wkN rfl)))) (DQ.de (dq_eq (q_lst (q_tup (q_C q_int (q_1 q_int)))) (u64 hr) (lo rfl) (lo rfl) (de_ownL (pv 9) rfl) (de_ownL (pv 6) rfl))))) (dw_or1 (DQ.dt (dq_notN (μ := .p) (T := (yTup (tysC yCn (tysC yCn (tys1 yCn))))) (by exact de_call c_open_pair.ok (hr.mono (by decide)) rfl c_open_pair.mg c_open_pair.kp c_open_pair.bd passC (da_cons (de_var (pv 4) rfl) (da_one (DE.fpL (de_rev (imm_tup (imm_C imm_int (imm_1 imm_int))) (de_ownL (pv 6) rfl))))) (imm_opt (imm_tup (imm_C (imm_tup (imm_C imm_int (imm_1 imm_int))) (imm_C (imm_tup (imm_C imm_int (imm_1 imm_int))) (imm_1 (imm_tup (imm_C imm_int (imm_1 imm_int)))))))) (wkN rfl))))))) (ds_one (ds_ret (f := (fun a => a)) (de_c (T := yBl) (a := false) pe_bl (fun _ => rfl)) (fun _ => rfl))) (fun _ => rfl) (ds_cons (ρ1 := fun (at_35 : Int) => [some (.pl (yScr yInt) script_p), some (.pl yCn board_here_1), some (.ow (cDic P w (kTup (ksC (kTup (ksC kInt (ks1 kInt))) (ks1 (kTup (ksC kInt (ks1 kInt)))))) yStr) table_3), some (.pl (yTup (tysC yStr (tys1 yStr))) texts_here_7), some (.pl (yObj "Plane" ["board", "rising", "falling", "letters"] (tysL (tysL (tysL (tysL tys0 yCn) yStr) yStr) (yDic P w (kTup (ksC (kTup (ksC kInt (ks1 kInt))) (ks1 (kTup (ksC kInt (ks1 kInt)))))) yStr))) plane_8), some (.ow (cLst yCn) given_here_9), some (.ow (cLst yCn) closed_13), some (.ow (cLst yInt) d_15), some (.ow (cLst yCn) turned_18), some (.ow (cLst yCn) row_26), some (.pl yInt at_35), none, none, none, none]) (ds_set (i := 10) sc.nd rfl (.inl rfl) (de_mod (de_int1 rfl bt.int (de_ixL (de_ownL (pv 7) rfl) (de_c (T := yInt) (a := (2 : Int)) pe_int (fun _ => rfl)))) (de_max2 rfl rfl bt.max (de_c (T := yInt) (a := (1 : Int)) pe_int (fun _ => rfl)) (de_len len_lst rfl bt.len (de_ownL (pv 6) rfl))))) (fun (at_35 : Int) => ds_cons (ρ1 := fun (less_37 : (List (Int × Int))) => [some (.pl (yScr yInt) script_p), some (.pl yCn board_here_1), some (.ow (cDic P w (kTup (ksC (kTup (ksC kInt (ks1 kInt))) (ks1 (kTup (ksC kInt (ks1 kInt)))))) yStr) table_3), some (.pl (yTup (tysC yStr (tys1 yStr))) texts_here_7), some (.pl (yObj "Plane" ["board", "rising", "falling", "letters"] (tysL (tysL (tysL (tysL tys0 yCn) yStr) yStr) (yDic P w (kTup (ksC (kTup (ksC kInt (ks1 kInt))) (ks1 (kTup (ksC kInt (ks1 kInt)))))) yStr))) plane_8), some (.ow (cLst yCn) given_here_9), some (.ow (cLst yCn) closed_13), some (.ow (cLst yInt) d_15), some (.ow (cLst yCn) turned_18), some (.ow (cLst yCn) row_26), some (.pl yInt at_35), some (.ow (cLst yCn) less_37), none, none, none]) (ds_setF (i := 11) sc.nd rfl (.inl rfl) (de_catL (imm_tup (imm_C imm_int (imm_1 imm_int))) (DE.fpL (de_sliceL (imm_tup (imm_C imm_int (imm_1 imm_int))) (de_ownL (pv 6) rfl) (do_none) (do_some (de_var (pv 10) rfl)))) (DE.fpL (de_sliceL (imm_tup (imm_C imm_int (imm_1 imm_int))) (de_ownL (pv 6) rfl) (do_some (de_add (de_var (pv 10) rfl) (de_c (T := yInt) (a := (1 : Int)) pe_int (fun _ => rfl)))) (do_none))))) (fun (less_37 : (List (Int × Int))) => ds_ift (dt_not (dt_val (de_call c_is_open.ok (hr.mono (by decide)) rfl c_is_open.mg c_is_open.kp c_is_open.bd passC (da_cons (de_call c_open_pair.ok (hr.mono (by decide)) rfl c_open_pair.mg c_open_pair.kp c_open_pair.bd passC (da_cons (de_var (pv 4) rfl) (da_one (DE.fpL (de_list1 sq_lst (imm_tup (imm_C imm_int (imm_1 imm_int))) rfl bt.list (de_ownL (pv 11) rfl))))) (imm_opt (imm_tup (imm_C (imm_tup (imm_C imm_int (imm_1 imm_int))) (imm_C (imm_tup (imm_C imm_int (imm_1 imm_int))) (imm_1 (imm_tup (imm_C imm_int (imm_1 imm_int)))))))) (wkN rfl)) (da_one (de_call c_open.ok (hr.mono (by decide)) rfl c_open.mg c_open.kp c_open.bd passC (da_cons (de_ownD (pv 2) rfl) (da_one (de_ownL (pv 11) rfl))) (imm_opt (imm_tup (imm_C (imm_tup (imm_C imm_int (imm_1 imm_int))) (imm_C (imm_tup (imm_C imm_int (imm_1 imm_int))) (imm_1 (imm_tup (imm_C imm_int (imm_1 imm_int)))))))) (wkN rfl)))) imm_bl (wkN rfl)))) (ds_one (ds_ret (f := (fun a => a)) (de_c (T := yBl) (a := false) pe_bl (fun _ => rfl)) (fun _ => rfl))) (fun _ => rfl) (ds_cons (ρ1 := fun (part_42 : (List (Int × Int))) => [some (.pl (yScr yInt) script_p), some (.pl yCn board_here_1), some (.ow (cDic P w (kTup (ksC (kTup (ksC kInt (ks1 kInt))) (ks1 (kTup (ksC kInt (ks1 kInt)))))) yStr) table_3), some (.pl (yTup (tysC yStr (tys1 yStr))) texts_here_7), some (.pl (yObj "Plane" ["board", "rising", "falling", "letters"] (tysL (tysL (tysL (tysL tys0 yCn) yStr) yStr) (yDic P w (kTup (ksC (kTup (ksC kInt (ks1 kInt))) (ks1 (kTup (ksC kInt (ks1 kInt)))))) yStr))) plane_8), some (.ow (cLst yCn) given_here_9), some (.ow (cLst yCn) closed_13), some (.ow (cLst yInt) d_15), some (.ow (cLst yCn) turned_18), some (.ow (cLst yCn) row_26), some (.pl yInt at_35), some (.ow (cLst yCn) less_37), some (.ow (cLst yCn) part_42), none, none]) (ds_setF (i := 12) sc.nd rfl (.inl rfl) (de_sliceL (imm_tup (imm_C imm_int (imm_1 imm_int))) (de_ownL (pv 5) rfl) (do_none) (do_some (de_mod (de_int1 rfl bt.int (de_ixL (de_ownL (pv 7) rfl) (de_c (T := yInt) (a := (1 : Int)) pe_int (fun _ => rfl)))) (de_add (de_len len_lst rfl bt.len (de_ownL (pv 5) rfl)) (de_c (T := yInt) (a := (1 : Int)) pe_int (fun _ => rfl))))))) (fun (part_42 : (List (Int × Int))) => ds_cons (ρ1 := fun (inner_46 : (List (Int × Int))) => [some (.pl (yScr yInt) script_p), some (.pl yCn board_here_1), some (.ow (cDic P w (kTup (ksC (kTup (ksC kInt (ks1 kInt))) (ks1 (kTup (ksC kInt (ks1 kInt)))))) yStr) table_3), some (.pl (yTup (tysC yStr (tys1 yStr))) texts_here_7), some (.pl (yObj "Plane" ["board", "rising", "falling", "letters"] (tysL (tysL (tysL (tysL tys0 yCn) yStr) yStr) (yDic P w (kTup (ksC (kTup (ksC kInt (ks1 kInt))) (ks1 (kTup (ksC kInt (ks1 kInt)))))) yStr))) plane_8), some (.ow (cLst yCn) given_here_9), some (.ow (cLst yCn) closed_13), some (.ow (cLst yInt) d_15), some (.ow (cLst yCn) turned_18), some (.ow (cLst yCn) row_26), some (.pl yInt at_35), some (.ow (cLst yCn) less_37), some (.ow (cLst yCn) part_42), some (.ow (cLst yCn) inner_46), none]) (ds_setF (i := 13) sc.nd rfl (.inl rfl) (de_callF c_closure_own_2.ok (hr.mono (by decide)) rfl c_closure_own_2.mg c_closure_own_2.kp c_closure_own_2.bd passC (da_cons (de_var (pv 4) rfl) (da_one (de_tupleL (imm_tup (imm_C imm_int (imm_1 imm_int))) rfl bt.tuple (de_ownL (pv 12) rfl)))) (imm_cLst (imm_tup (imm_C imm_int (imm_1 imm_int)))) (wkN rfl))) (fun (inner_46 : (List (Int × Int))) => ds_ift (dt_not (dt_val (de_call c_is_row.ok (hr.mono (by decide)) rfl c_is_row.mg c_is_row.kp c_is_row.bd passC (da_cons (de_ownL (pv 13) rfl) (da_one (DE.fpL (de_callF c_closure.ok (hr.mono (by decide)) rfl c_closure.mg c_closure.kp c_closure.bd passC (da_cons (de_ownD (pv 2) rfl) (da_one (de_ownL (pv 12) rfl))) (imm_cLst (imm_tup (imm_C imm_int (imm_1 imm_int)))) (wkN rfl))))) imm_bl (wkN rfl)))) (ds_one (ds_ret (f := (fun a => a)) (de_c (T := yBl) (a := false) pe_bl (fun _ => rfl)) (fun _ => rfl))) (fun _ => rfl) (ds_one (ds_ret (f := (fun a => a)) (DQ.de (dq_eqI (de_len len_lst rfl bt.len (DE.fpL (de_lc (own := [("_law_corner", 14)]) (ρ' := fun (corner_50 : (Int × Int)) => [some (.pl (yScr yInt) script_p), some (.pl yCn board_here_1), some (.ow (cDic P w (kTup (ksC (kTup (ksC kInt (ks1 kInt))) (ks1 (kTup (ksC kInt (ks1 kInt)))))) yStr) table_3), some (.pl (yTup (tysC yStr (tys1 yStr))) texts_here_7), some (.pl (yObj "Plane" ["board", "rising", "falling", "letters"] (tysL (tysL (tysL (tysL tys0 yCn) yStr) yStr) (yDic P w (kTup (ksC (kTup (ksC kInt (ks1 kInt))) (ks1 (kTup (ksC kInt (ks1 kInt)))))) yStr))) plane_8), some (.ow (cLst yCn) given_here_9), some (.ow (cLst yCn) closed_13), some (.ow (cLst yInt) d_15), some (.ow (cLst yCn) turned_18), some (.ow (cLst yCn) row_26), some (.pl yInt at_35), some (.ow (cLst yCn) less_37), some (.ow (cLst yCn) part_42), some (.ow (cLst yCn) inner_46), some (.pl yCn corner_50)]) (U := yCn) rfl sc.nd (dic_list (imm_tup (imm_C imm_int (imm_1 imm_int))) (de_ownL (pv 13) rfl)) (blkOk_by (N := ["_law_script", "_law_board_here", "_law_table", "_law_texts_here", "_law_plane", "_law_given_here", "_law_closed", "_law_d", "_law_turned", "_law_row", "_law_at", "_law_less", "_law_part", "_law_inner", "_law_corner"]) (sc := defScope s_law) (by decide +kernel)) (fun _ _ _ _ _ => dgc (dg_name (pg_name (i := 14) sc.nd rfl (by first | exact .inl rfl | exact .inr rfl))) (by first | rfl | (dsimp only [Blk, Cx.blk, cxOf]; try rfl))) (by decide) (fun _ _ _ _ _ (corner_50 : (Int × Int)) => dtc (dts_one (DQ.dt (dq_notInL (q_tup (q_C q_int (q_1 q_int))) (u65 hr) (lo rfl) (de_var (pv 14) rfl) (de_ownL (pv 6) rfl)))) (by first | rfl | (dsimp only [Blk, Cx.blk, cxOf]; try rfl))) (fun _ _ _ _ _ (corner_50 : (Int × Int)) => dec (de_var (pv 14) rfl) (by first | rfl | (dsimp only [Blk, Cx.blk, cxOf]; try rfl)))))) (de_c (T := yInt) (a := (0 : Int)) pe_int (fun _ => rfl)))) (fun _ => rfl)))))))))))))))))))))) (by unfold m_law; simp only [bo, isIn_dec, andok, orok]), fun _ => .inl rfl⟩
theorem draws_wp {c : Int} {sz : List Int} {P : List Int → Prop} (h : ∀ x ∈ sz, 0 < x ∧ x < 1073741824) (hl : sz.length ≤ 1000000)
    (hp : ∀ d : List Int, d.length = sz.length → (∀ (i : Nat) (x y : Int), d[i]? = some x → sz[i]? = some y → 0 ≤ x ∧ x < y) → P d) : wp (m_draws c sz) P := by
  unfold m_draws
  simp only [wp_bind, wp_ok]
  refine wp_pow (by omega) (by omega) ?_
  refine wp_rng (by omega) (by omega) (by omega) (by omega) ?_
  refine wp_forSn (fun i s => s.1.length = i ∧ ∀ (j : Nat) (x y : Int), s.1[j]? = some x → sz[j]? = some y → 0 ≤ x ∧ x < y) ⟨rfl, fun j x y e => by simp at e⟩ (fun i k hk s ⟨s1, s2⟩ => ?_) (fun s ⟨s1, s2⟩ => hp _ ?_ s2)
  · obtain ⟨rfl, hi⟩ := rng_get hk
    have key : ∀ (v : Int), (∀ y, sz[i]? = some y → 0 ≤ v ∧ v < y) → ∀ (j : Nat) (x y : Int), (s.1 ++ [v])[j]? = some x → sz[j]? = some y → 0 ≤ x ∧ x < y := by
      intro v hv j x y e1 e2
      rw [List.getElem?_append] at e1
      split at e1
      · exact s2 j x y e1 e2
      · have : j = i := by
          have := (List.getElem?_eq_some_iff.mp e1).1
          simp at this
          omega
        subst this
        simp [s1] at e1
        subst e1
        exact hv y e2
    rw [wp_bind]
    refine wp_ix (by omega) (by omega) fun hi2 => ?_
    have hs := h _ (List.getElem_mem hi2)
    have hsz : ∀ y, sz[i]? = some y → y = sz[(0 + (i : Int)).toNat] := fun y e => by
      have e2 : (0 + (i : Int)).toNat = i := by omega
      simp only [e2]
      rw [List.getElem?_eq_getElem (by omega)] at e
      exact (Option.some.inj e).symm
    generalize sz[(0 + (i : Int)).toNat] = z at hs hsz
    refine wp_ite.mpr ⟨fun hc => ?_, fun hc => ?_⟩
    · simp only [wp_bind, wp_ok]
      refine wp_mod hs.1 (wp_app (by omega) (wp_div hs ?_))
      exact ⟨by simp [s1], key _ fun y e => by rw [hsz y e]; exact ⟨Int.emod_nonneg _ (by omega), Int.emod_lt_of_pos _ hs.1⟩⟩
    · simp only [wp_bind, wp_ok]
      refine wp_mul (.inl (by omega)) (wp_mod (by omega) ?_)
      have h1 := Int.emod_nonneg (c + 7919 * (0 + (i : Int)) + 13) (show (2147483647 : Int) ≠ 0 by omega)
      have h2 := Int.emod_lt_of_pos (c + 7919 * (0 + (i : Int)) + 13) (show (0 : Int) < 2147483647 by omega)
      generalize (c + 7919 * (0 + (i : Int)) + 13) % 2147483647 = m1 at h1 h2
      refine wp_mul (.inl (by omega)) (wp_mod (by omega) ?_)
      have h3 := Int.emod_nonneg (m1 * (m1 + 48271)) (show (2147483629 : Int) ≠ 0 by omega)
      have h4 := Int.emod_lt_of_pos (m1 * (m1 + 48271)) (show (0 : Int) < 2147483629 by omega)
      generalize (m1 * (m1 + 48271)) % 2147483629 = m2 at h3 h4
      refine wp_mul (.inl (by omega)) (wp_mul (.inl (by omega)) (wp_mod (by omega) (wp_div (by omega) (wp_mod hs.1 (wp_app (by omega) ?_)))))
      exact ⟨by simp [s1], key _ fun y e => by rw [hsz y e]; exact ⟨Int.emod_nonneg _ (by omega), Int.emod_lt_of_pos _ hs.1⟩⟩
  · rw [s1, rng_len]; omega
theorem dix {d sz : List Int} {i y : Int} {P : Int → Prop} (hl : d.length = sz.length) (hd : ∀ (i : Nat) (x y : Int), d[i]? = some x → sz[i]? = some y → 0 ≤ x ∧ x < y) (h0 : 0 ≤ i) (hy : sz[i.toNat]? = some y) (h : ∀ x, 0 ≤ x → x < y → P x) : wp (rIx d i : R Er Int) P := by
  have hlt : i.toNat < d.length := by rw [hl]; exact (List.getElem?_eq_some_iff.mp hy).1
  refine wp_ix h0 (by omega) fun hi => ?_
  obtain ⟨h1, h2⟩ := hd i.toNat _ y (List.getElem?_eq_getElem hi) hy
  exact h _ h1 h2
theorem cell_wp {ns : List Int} {k : Int} {P : Int → Prop} (h0 : 0 ≤ k) (h : ∀ x, P x) : wp (m_cell ns k) P := by
  unfold m_cell
  refine wp_ite.mpr ⟨fun hc => ?_, fun _ => wp_ok.mpr (h _)⟩
  rw [wp_bind]
  refine wp_ix h0 (by simpa using hc) fun _ => wp_ok.mpr (h _)
abbrev Cr := Int × Int
abbrev Tb := Cr → Cr → Bool
def fs (t : Tb) (p q : Cr) : Bool := if p.2 = q.2 then true else if p.1 = q.1 then false else t p q
def mv (p : Cr) (e : Bool) : Cr := if e then (p.1 + 1, p.2) else (p.1, p.2 + 1)
def bk (q : Cr) (e : Bool) : Cr := if e then (q.1 - 1, q.2) else (q.1, q.2 - 1)
def nx (t : Tb) (p q : Cr) : Cr := mv p (fs t p q)
def le2 (p q : Cr) : Prop := p.1 ≤ q.1 ∧ p.2 ≤ q.2
def dst (p q : Cr) : Nat := (q.1 - p.1 + (q.2 - p.2)).toNat
/-- the i-th corner of the path from p to q -/
def ps (t : Tb) (q : Cr) : Nat → Cr → Cr
  | 0, p => p
  | i + 1, p => ps t q i (nx t p q)
/-- the last step of the path from p to q, which has n steps -/
def ls (t : Tb) (q : Cr) : Nat → Cr → Bool
  | 0, _ => true
  | 1, p => fs t p q
  | n + 2, p => ls t q (n + 1) (nx t p q)
def pen (t : Tb) (p q : Cr) : Cr := bk q (ls t q (dst p q) p)
def Fine (t : Tb) (p q : Cr) : Prop := fs t p (pen t p q) = fs t p q
theorem le2.dst {p q : Cr} (h : le2 p q) : ((dst p q : Nat) : Int) = q.1 - p.1 + (q.2 - p.2) := by
  obtain ⟨h1, h2⟩ := h; unfold CpLaw.dst; omega
theorem mv_t (p : Cr) : mv p true = (p.1 + 1, p.2) := rfl
theorem mv_f (p : Cr) : mv p false = (p.1, p.2 + 1) := rfl
theorem bk_t (p : Cr) : bk p true = (p.1 - 1, p.2) := rfl
theorem bk_f (p : Cr) : bk p false = (p.1, p.2 - 1) := rfl
theorem mv_inj {p : Cr} {e e' : Bool} (h : mv p e = mv p e') : e = e' := by
  cases e <;> cases e' <;> simp [mv, Prod.ext_iff] at h ⊢ <;> omega
theorem dst_mv {p q : Cr} {e : Bool} {n : Nat} (h : dst p q = n + 1) : dst (mv p e) q = n := by
  unfold dst at *
  cases e
  · rw [mv_f]; simp only; omega
  · rw [mv_t]; simp only; omega
theorem dst_bk {p q : Cr} {e : Bool} {n : Nat} (h : dst p q = n + 1) : dst p (bk q e) = n := by
  unfold dst at *
  cases e
  · rw [bk_f]; simp only; omega
  · rw [bk_t]; simp only; omega
theorem fs_cases {t : Tb} {p q : Cr} (h : le2 p q) (hd : 0 < dst p q) : (fs t p q = true ∧ p.1 < q.1) ∨ (fs t p q = false ∧ p.2 < q.2) := by
  have e := h.dst
  obtain ⟨h1, h2⟩ := h
  unfold fs
  by_cases c1 : p.2 = q.2
  · rw [if_pos c1]; exact .inl ⟨rfl, by omega⟩
  · rw [if_neg c1]
    by_cases c2 : p.1 = q.1
    · rw [if_pos c2]; exact .inr ⟨rfl, by omega⟩
    · rw [if_neg c2]
      cases t p q
      · exact .inr ⟨rfl, by omega⟩
      · exact .inl ⟨rfl, by omega⟩
theorem nx_le {t : Tb} {p q : Cr} (h : le2 p q) (hd : 0 < dst p q) : le2 (nx t p q) q ∧ le2 p (nx t p q) := by
  obtain ⟨h1, h2⟩ := id h
  unfold nx
  rcases fs_cases (t := t) h hd with ⟨e, c⟩ | ⟨e, c⟩ <;> rw [e]
  · rw [mv_t]; exact ⟨⟨by simp only; omega, h2⟩, ⟨by simp only; omega, by simp⟩⟩
  · rw [mv_f]; exact ⟨⟨h1, by simp only; omega⟩, ⟨by simp, by simp only; omega⟩⟩
theorem dst_nx {t : Tb} {p q : Cr} {n : Nat} (h : dst p q = n + 1) : dst (nx t p q) q = n := dst_mv h
theorem dst_zero {p q : Cr} (h : le2 p q) (hd : dst p q = 0) : p = q := by
  have e := h.dst
  obtain ⟨h1, h2⟩ := h
  exact Prod.ext (by omega) (by omega)
theorem le2.trans {p q r : Cr} (h : le2 p q) (h' : le2 q r) : le2 p r := ⟨Int.le_trans h.1 h'.1, Int.le_trans h.2 h'.2⟩
theorem le2.refl (p : Cr) : le2 p p := ⟨Int.le_refl _, Int.le_refl _⟩
theorem ps_le {t : Tb} {q : Cr} : ∀ {n i : Nat} {p : Cr}, le2 p q → dst p q = n → i ≤ n → le2 (ps t q i p) q ∧ le2 p (ps t q i p) ∧ dst (ps t q i p) q = n - i
  | _, 0, p, h, hd, _ => ⟨h, le2.refl _, hd⟩
  | 0, i + 1, p, h, hd, hi => absurd hi (by omega)
  | n + 1, i + 1, p, h, hd, hi => by
    obtain ⟨a1, a2⟩ := nx_le (t := t) h (by omega)
    obtain ⟨b1, b2, b3⟩ := ps_le (t := t) (n := n) (i := i) a1 (dst_nx hd) (by omega)
    exact ⟨b1, a2.trans b2, by show dst (ps t q i (nx t p q)) q = _; omega⟩
theorem ps_end {t : Tb} {q p : Cr} (h : le2 p q) : ps t q (dst p q) p = q := by
  obtain ⟨b1, b2, b3⟩ := ps_le (t := t) h rfl (Nat.le_refl (dst p q))
  exact dst_zero b1 (by omega)
theorem ps_add (t : Tb) (q : Cr) : ∀ (i j : Nat) (p : Cr), ps t q (i + j) p = ps t q j (ps t q i p)
  | 0, j, p => by rw [Nat.zero_add]; rfl
  | i + 1, j, p => by
    rw [show i + 1 + j = (i + j) + 1 by omega]
    exact ps_add t q i j (nx t p q)
theorem ls_ps {t : Tb} {q : Cr} : ∀ {n i : Nat} {p : Cr}, i < n → ls t q n p = ls t q (n - i) (ps t q i p)
  | _, 0, _, _ => rfl
  | 0, i + 1, _, h => absurd h (by omega)
  | 1, i + 1, _, h => absurd h (by omega)
  | n + 2, i + 1, p, h => by
    rw [show n + 2 - (i + 1) = n + 1 - i by omega]
    exact ls_ps (n := n + 1) (i := i) (p := nx t p q) (by omega)
/-- the step back leads to the last corner but one -/
theorem pen_ps {t : Tb} {q : Cr} : ∀ {n : Nat} {p : Cr}, le2 p q → dst p q = n + 1 → ps t q n p = bk q (ls t q (n + 1) p)
  | 0, p, h, hd => by
    have e := h.dst
    show p = bk q (fs t p q)
    rcases fs_cases (t := t) h (by omega) with ⟨e1, c⟩ | ⟨e1, c⟩ <;> rw [e1]
    · obtain ⟨h1, h2⟩ := h
      rw [bk_t]; exact Prod.ext (by simp only; omega) (by simp only; omega)
    · obtain ⟨h1, h2⟩ := h
      rw [bk_f]; exact Prod.ext (by simp only; omega) (by simp only; omega)
  | n + 1, p, h, hd => by
    obtain ⟨a1, _⟩ := nx_le (t := t) h (by omega)
    exact pen_ps (n := n) a1 (dst_nx hd)
theorem pen_eq {t : Tb} {p q : Cr} {n : Nat} (h : le2 p q) (hd : dst p q = n + 1) : pen t p q = ps t q n p := by
  unfold pen; rw [hd, pen_ps h hd]
theorem pen_le {t : Tb} {p q : Cr} (h : le2 p q) (hd : 0 < dst p q) : le2 p (pen t p q) ∧ le2 (pen t p q) q ∧ dst p (pen t p q) + 1 = dst p q := by
  obtain ⟨n, hn⟩ : ∃ n, dst p q = n + 1 := ⟨dst p q - 1, by omega⟩
  obtain ⟨a, b, c⟩ := ps_le (t := t) h hn (Nat.le_succ n)
  have e := pen_eq (t := t) h hn
  rw [e]
  refine ⟨b, a, ?_⟩
  rw [← e]
  unfold pen
  rw [dst_bk hn, hn]
theorem pen_nx {t : Tb} {p q : Cr} {n : Nat} (hd : dst p q = n + 2) : pen t (nx t p q) q = pen t p q := by
  unfold pen
  rw [hd, dst_nx hd]
  rfl
/-- straight ones -/
theorem ls_row {t : Tb} {q : Cr} : ∀ {n : Nat} {p : Cr}, p.2 = q.2 → ls t q n p = true
  | 0, _, _ => rfl
  | 1, p, h => by show fs t p q = true; unfold fs; rw [if_pos h]
  | n + 2, p, h => by
    refine ls_row (n := n + 1) (p := nx t p q) ?_
    unfold nx fs
    rw [if_pos h, mv_t]; exact h
theorem ls_col {t : Tb} {q : Cr} : ∀ {n : Nat} {p : Cr}, p.1 = q.1 → p.2 + n = q.2 → 0 < n → ls t q n p = false
  | 0, _, _, _, h => absurd h (by omega)
  | 1, p, h, h2, _ => by show fs t p q = false; unfold fs; rw [if_neg (by omega), if_pos h]
  | n + 2, p, h, h2, _ => by
    have e : nx t p q = (p.1, p.2 + 1) := by unfold nx fs; rw [if_neg (by omega), if_pos h, mv_f]
    show ls t q (n + 1) (nx t p q) = false
    rw [e]
    exact ls_col (n := n + 1) h (by simp only; omega) (by omega)
theorem fine_straight {t : Tb} {p q : Cr} (h : le2 p q) (hd : 2 ≤ dst p q) (hs : p.1 = q.1 ∨ p.2 = q.2) : Fine t p q := by
  have e := h.dst
  unfold Fine pen
  by_cases c : p.2 = q.2
  · rw [ls_row c, bk_t]
    unfold fs
    rw [if_pos c, if_pos c]
  · have c1 : p.1 = q.1 := hs.resolve_right c
    obtain ⟨h1, h2⟩ := h
    rw [ls_col c1 (by omega) (by omega), bk_f]
    unfold fs
    rw [if_neg (by simp only; omega), if_pos c1, if_neg c, if_pos c1]
/-- a set of corners without gaps -/
def Cvx (S : Cr → Prop) : Prop := ∀ p q r, S p → S q → le2 p r → le2 r q → S r
/-- all pairs of at most n steps are in order -/
def FineS (t : Tb) (S : Cr → Prop) (n : Nat) : Prop := ∀ p q, S p → S q → p.1 < q.1 → p.2 < q.2 → dst p q ≤ n → Fine t p q
section
variable {t : Tb} {S : Cr → Prop}
theorem FineS.get {n : Nat} (f : FineS t S n) {p q : Cr} (hp : S p) (hq : S q) (h : le2 p q) (h2 : 2 ≤ dst p q) (hn : dst p q ≤ n) : Fine t p q := by
  by_cases c : p.1 = q.1 ∨ p.2 = q.2
  · exact fine_straight h h2 c
  · obtain ⟨h1, h2⟩ := h
    exact f p q hp hq (by omega) (by omega) hn
theorem FineS.le {n m : Nat} (f : FineS t S n) (h : m ≤ n) : FineS t S m := fun p q a b c d e => f p q a b c d (Nat.le_trans e h)
/-- the path without its last corner, one step more -/
theorem ps_pen1 (hS : Cvx S) {n : Nat} (ih : ∀ p q, S p → S q → le2 p q → ∀ m, dst p q = m + 1 → m + 1 ≤ n → ∀ i ≤ m, ps t q i p = ps t (pen t p q) i p) {p q : Cr} (hp : S p) (hq : S q) (h : le2 p q) {m : Nat} (hd : dst p q = m + 1) (hm : m ≤ n) (hf : 0 < m → Fine t p q) : ∀ i ≤ m, ps t q i p = ps t (pen t p q) i p := by
  intro i hi
  cases i with
  | zero => rfl
  | succ k =>
    obtain ⟨m', rfl⟩ : ∃ m', m = m' + 1 := ⟨m - 1, by omega⟩
    obtain ⟨a1, a2⟩ := nx_le (t := t) h (by omega)
    have e := ih (nx t p q) q (hS p q _ hp hq a2 a1) hq a1 m' (dst_nx hd) hm k (by omega)
    rw [pen_nx hd] at e
    show ps t q k (nx t p q) = ps t (pen t p q) k (nx t p (pen t p q))
    rw [e]
    have : nx t p (pen t p q) = nx t p q := by unfold nx; rw [show fs t p (pen t p q) = fs t p q from hf (by omega)]
    rw [this]
theorem ps_pen (hS : Cvx S) {n : Nat} (f : FineS t S n) : ∀ (m : Nat) (p q : Cr), S p → S q → le2 p q → dst p q = m + 1 → m + 1 ≤ n → ∀ i ≤ m, ps t q i p = ps t (pen t p q) i p
  | 0, p, q, _, _, _, _, _, i, hi => by
    obtain rfl : i = 0 := by omega
    rfl
  | m + 1, p, q, hp, hq, h, hd, hm, i, hi => ps_pen1 hS (n := m + 1) (fun p q a b c m' d e i hi => ps_pen hS f m' p q a b c d (by omega) i hi) hp hq h hd (Nat.le_refl _) (fun _ => f.get hp hq h (by omega) (by omega)) i hi
termination_by m => m
/-- a beginning of a path is a path -/
theorem ps_pre (hS : Cvx S) {n : Nat} (f : FineS t S n) : ∀ (m : Nat) {p q : Cr}, S p → S q → le2 p q → dst p q = m → m ≤ n → ∀ j ≤ m, ∀ i ≤ j, ps t q i p = ps t (ps t q j p) i p
  | 0, p, q, _, _, _, _, _, j, hj, i, hi => by
    obtain rfl : j = 0 := by omega
    obtain rfl : i = 0 := by omega
    rfl
  | m + 1, p, q, hp, hq, h, hd, hm, j, hj, i, hi => by
    by_cases c : j = m + 1
    · subst c
      rw [← hd, ps_end h]
    · obtain ⟨b1, b2, b3⟩ := pen_le (t := t) h (by omega)
      have e := fun i hi => ps_pen hS f m p q hp hq h hd hm i hi
      rw [e i (by omega), e j (by omega)]
      exact ps_pre hS f m (p := p) (q := pen t p q) hp (hS p q _ hp hq b1 b2) b1 (by omega) (by omega) j (by omega) i hi
/-- .. its first step -/
theorem fs_pre (hS : Cvx S) {n m : Nat} (f : FineS t S n) {p q : Cr} (hp : S p) (hq : S q) (h : le2 p q) (hd : dst p q = m) (hm : m ≤ n) {j : Nat} (h1 : 1 ≤ j) (hj : j ≤ m) : fs t p (ps t q j p) = fs t p q := by
  have e := ps_pre hS f m hp hq h hd hm j hj 1 h1
  exact (mv_inj (p := p) (show nx t p q = nx t p (ps t q j p) from e)).symm
end
/-- two rows of steps that change sides meet -/
theorem meet (a b : Nat → Int) (ha : ∀ i, a (i + 1) = a i ∨ a (i + 1) = a i + 1) (hb : ∀ i, b (i + 1) = b i ∨ b (i + 1) = b i + 1) : ∀ (n : Nat), a 0 < b 0 → b n < a n → ∃ i, i < n ∧ a i = b i
  | 0, h1, h2 => absurd h1 (by omega)
  | n + 1, h1, h2 => by
    by_cases c : b n < a n
    · obtain ⟨i, hi, e⟩ := meet a b ha hb n h1 c
      exact ⟨i, by omega, e⟩
    · refine ⟨n, by omega, ?_⟩
      rcases ha n with x | x <;> rcases hb n with y | y <;> omega
theorem ps_x (t : Tb) (q : Cr) : ∀ (i : Nat) (p : Cr), (ps t q (i + 1) p).1 = (ps t q i p).1 ∨ (ps t q (i + 1) p).1 = (ps t q i p).1 + 1
  | 0, p => by
    show (nx t p q).1 = p.1 ∨ (nx t p q).1 = p.1 + 1
    unfold nx mv
    split
    · exact .inr rfl
    · exact .inl rfl
  | i + 1, p => ps_x t q i (nx t p q)
theorem ps_sum (t : Tb) (q : Cr) : ∀ (i : Nat) (p : Cr), (ps t q i p).1 + (ps t q i p).2 = p.1 + p.2 + i
  | 0, p => by show p.1 + p.2 = _; omega
  | i + 1, p => by
    have e := ps_sum t q i (nx t p q)
    have e2 : (nx t p q).1 + (nx t p q).2 = p.1 + p.2 + 1 := by
      unfold nx mv
      split <;> simp only <;> omega
    show (ps t q i (nx t p q)).1 + (ps t q i (nx t p q)).2 = _
    omega
theorem unstuck {t : Tb} {S : Cr → Prop} (hS : Cvx S) {n : Nat} (f : FineS t S n) {p q : Cr} (hp : S p) (hq : S q) (h1 : p.1 < q.1) (h2 : p.2 < q.2) (hd : dst p q = n + 1) :
    ∃ e, fs t p (bk q (ls t q n (mv p e))) = e := by
  apply Classical.byContradiction
  intro no
  have hT : fs t p (bk q (ls t q n (mv p true))) = false := by
    cases c : fs t p (bk q (ls t q n (mv p true))) with
    | false => rfl
    | true => exact absurd ⟨true, c⟩ no
  have hF : fs t p (bk q (ls t q n (mv p false))) = true := by
    cases c : fs t p (bk q (ls t q n (mv p false))) with
    | true => rfl
    | false => exact absurd ⟨false, c⟩ no
  have hle : le2 p q := ⟨by omega, by omega⟩
  have hdi := hle.dst
  obtain ⟨m, rfl⟩ : ∃ m, n = m + 1 := ⟨n - 1, by omega⟩
  have lT : le2 (mv p true) q := by rw [mv_t]; exact ⟨by simp only; omega, by simp only; omega⟩
  have lF : le2 (mv p false) q := by rw [mv_f]; exact ⟨by simp only; omega, by simp only; omega⟩
  have dT : dst (mv p true) q = m + 1 := dst_mv hd
  have dF : dst (mv p false) q = m + 1 := dst_mv hd
  -- the last corners but one
  have eT := pen_ps (t := t) lT dT
  have eF := pen_ps (t := t) lF dF
  cases cT : ls t q (m + 1) (mv p true) with
  | true =>
    cases cF : ls t q (m + 1) (mv p false) with
    | true => rw [cT] at hT; rw [cF] at hF; rw [hT] at hF; cases hF
    | false =>
      -- the paths of mv p true and mv p false to q meet ahead of q
      rw [cT, bk_t] at eT
      rw [cF, bk_f] at eF
      have hmeet := meet (fun i => (ps t q i (mv p false)).1) (fun i => (ps t q i (mv p true)).1) (fun i => ps_x t q i _) (fun i => ps_x t q i _) m (by show (mv p false).1 < (mv p true).1; rw [mv_t, mv_f]; simp only; omega) (by simp only [eT, eF]; omega)
      obtain ⟨i, hi, e⟩ := hmeet
      have s1 := ps_sum t q i (mv p false)
      have s2 := ps_sum t q i (mv p true)
      have e0 : (ps t q i (mv p false)).1 = (ps t q i (mv p true)).1 := e
      have y1 : (mv p false).1 + (mv p false).2 = (mv p true).1 + (mv p true).2 := by rw [mv_t, mv_f]; simp only; omega
      have e1 : ps t q i (mv p false) = ps t q i (mv p true) := Prod.ext e0 (by omega)
      have x1 := ls_ps (t := t) (q := q) (n := m + 1) (i := i) (p := mv p false) (by omega)
      have x2 := ls_ps (t := t) (q := q) (n := m + 1) (i := i) (p := mv p true) (by omega)
      rw [e1] at x1
      rw [← x1, cF, cT] at x2
      cases x2
  | false =>
    cases cF : ls t q (m + 1) (mv p false) with
    | false => rw [cT] at hT; rw [cF] at hF; rw [hT] at hF; cases hF
    | true =>
      rw [cT] at hT
      rw [cF] at hF
      -- from p to the corners south and west of q
      have lS : le2 p (bk q false) := by rw [bk_f]; exact ⟨by simp only; omega, by simp only; omega⟩
      have lW : le2 p (bk q true) := by rw [bk_t]; exact ⟨by simp only; omega, by simp only; omega⟩
      have qS : le2 (bk q false) q := by rw [bk_f]; exact ⟨by simp, by simp only; omega⟩
      have qW : le2 (bk q true) q := by rw [bk_t]; exact ⟨by simp only; omega, by simp⟩
      have iS : S (bk q false) := hS p q _ hp hq lS qS
      have iW : S (bk q true) := hS p q _ hp hq lW qW
      have gS : dst p (bk q false) = m + 1 := dst_bk hd
      have gW : dst p (bk q true) = m + 1 := dst_bk hd
      have nS : ps t (bk q false) 1 p = mv p false := by show nx t p _ = _; unfold nx; rw [hT]
      have nW : ps t (bk q true) 1 p = mv p true := by show nx t p _ = _; unfold nx; rw [hF]
      have zS := ps_end (t := t) lS
      have zW := ps_end (t := t) lW
      rw [gS, show m + 1 = 1 + m by omega, ps_add, nS] at zS
      rw [gW, show m + 1 = 1 + m by omega, ps_add, nW] at zW
      have hmeet := meet (fun i => (ps t (bk q false) i (mv p false)).1) (fun i => (ps t (bk q true) i (mv p true)).1) (fun i => ps_x t _ i _) (fun i => ps_x t _ i _) m (by show (mv p false).1 < (mv p true).1; rw [mv_t, mv_f]; simp only; omega) (by simp only [zS, zW]; rw [bk_t, bk_f]; simp only; omega)
      obtain ⟨i, hi, e⟩ := hmeet
      have s1 := ps_sum t (bk q false) i (mv p false)
      have s2 := ps_sum t (bk q true) i (mv p true)
      have e1 : ps t (bk q false) i (mv p false) = ps t (bk q true) i (mv p true) := by
        have y1 : (mv p false).1 + (mv p false).2 = (mv p true).1 + (mv p true).2 := by rw [mv_t, mv_f]; simp only; omega
        have e0 : (ps t (bk q false) i (mv p false)).1 = (ps t (bk q true) i (mv p true)).1 := e
        exact Prod.ext e0 (by omega)
      have w1 : ps t (bk q false) (1 + i) p = ps t (bk q false) i (mv p false) := by rw [ps_add, nS]
      have w2 : ps t (bk q true) (1 + i) p = ps t (bk q true) i (mv p true) := by rw [ps_add, nW]
      have f1 := fs_pre hS f hp iS lS gS (Nat.le_refl _) (j := 1 + i) (by omega) (by omega)
      have f2 := fs_pre hS f hp iW lW gW (Nat.le_refl _) (j := 1 + i) (by omega) (by omega)
      rw [w1, hT, e1] at f1
      rw [w2, hF, f1] at f2
      cases f2
theorem fs_congr {t t' : Tb} {p q : Cr} (h : p.1 < q.1 → p.2 < q.2 → t p q = t' p q) (hl : le2 p q) : fs t p q = fs t' p q := by
  unfold fs
  obtain ⟨h1, h2⟩ := hl
  by_cases c : p.2 = q.2
  · rw [if_pos c, if_pos c]
  · rw [if_neg c, if_neg c]
    by_cases c2 : p.1 = q.1
    · rw [if_pos c2, if_pos c2]
    · rw [if_neg c2, if_neg c2, h (by omega) (by omega)]
/-- the two tables agree on the pairs of at most n steps -/
def Agr (t t' : Tb) (S : Cr → Prop) (n : Nat) : Prop := ∀ p q, S p → S q → p.1 < q.1 → p.2 < q.2 → dst p q ≤ n → t p q = t' p q
section
variable {t t' : Tb} {S : Cr → Prop}
theorem ps_congr (hS : Cvx S) {q : Cr} : ∀ {n : Nat} {p : Cr}, Agr t t' S n → S p → S q → le2 p q → dst p q = n → ∀ i ≤ n, ps t q i p = ps t' q i p
  | 0, p, _, _, _, _, _, i, hi => by
    obtain rfl : i = 0 := by omega
    rfl
  | n + 1, p, a, hp, hq, h, hd, i, hi => by
    cases i with
    | zero => rfl
    | succ i =>
      have e : nx t p q = nx t' p q := by unfold nx; rw [fs_congr (fun x y => a p q hp hq x y (by omega)) h]
      obtain ⟨a1, a2⟩ := nx_le (t := t) h (by omega)
      show ps t q i (nx t p q) = ps t' q i (nx t' p q)
      rw [← e]
      exact ps_congr hS (fun p q b c d x y => a p q b c d x (by omega)) (hS p q _ hp hq a2 a1) hq a1 (dst_nx hd) i (by omega)
theorem ls_congr (hS : Cvx S) {q : Cr} {n : Nat} {p : Cr} (a : Agr t t' S (n + 1)) (hp : S p) (hq : S q) (h : le2 p q) (hd : dst p q = n + 1) : ls t q (n + 1) p = ls t' q (n + 1) p := by
  have e := ps_congr hS a hp hq h hd n (by omega)
  rw [pen_ps h hd, pen_ps h hd] at e
  generalize ls t q (n + 1) p = x at e
  generalize ls t' q (n + 1) p = y at e
  cases x <;> cases y <;> simp [bk, Prod.ext_iff] at e ⊢ <;> omega
theorem Fine.congr (hS : Cvx S) {p q : Cr} (a : Agr t t' S (dst p q - 1)) (a2 : t p q = t' p q) (hp : S p) (hq : S q) (h : le2 p q) (hd : 2 ≤ dst p q) (f : Fine t p q) : Fine t' p q := by
  obtain ⟨n, hn⟩ : ∃ n, dst p q = n + 2 := ⟨dst p q - 2, by omega⟩
  have e : fs t p q = fs t' p q := fs_congr (fun _ _ => a2) h
  have en : nx t p q = nx t' p q := by unfold nx; rw [e]
  obtain ⟨a1, a3⟩ := nx_le (t := t) h (by omega)
  have el : ls t q (n + 2) p = ls t' q (n + 2) p := by
    show ls t q (n + 1) (nx t p q) = ls t' q (n + 1) (nx t' p q)
    rw [← en]
    exact ls_congr hS (fun p q b c d x y => a p q b c d x (by omega)) (hS p q _ hp hq a3 a1) hq a1 (dst_nx hn)
  have ep : pen t p q = pen t' p q := by unfold pen; rw [hn, el]
  obtain ⟨b1, b2, b3⟩ := pen_le (t := t) h (by omega)
  unfold Fine at *
  rw [← ep, ← e, ← f]
  exact (fs_congr (fun x y => a p _ hp (hS p q _ hp hq b1 b2) x y (by omega)) b1).symm
end
abbrev Pr := Cr × Cr
def stp (x : Pr) : Int := (if (x.1.1 - x.2.1) < 0 then -(x.1.1 - x.2.1) else (x.1.1 - x.2.1)) + (if (x.1.2 - x.2.2) < 0 then -(x.1.2 - x.2.2) else (x.1.2 - x.2.2))
def LT4 (a b : Pr) : Prop := a.1.1 < b.1.1 ∨ (a.1.1 = b.1.1 ∧ (a.1.2 < b.1.2 ∨ (a.1.2 = b.1.2 ∧ (a.2.1 < b.2.1 ∨ (a.2.1 = b.2.1 ∧ a.2.2 < b.2.2)))))
instance (a b : Pr) : Decidable (LT4 a b) := by unfold LT4; infer_instance
def LT3 (a b : Int × Pr) : Prop := a.1 < b.1 ∨ (a.1 = b.1 ∧ LT4 a.2 b.2)
instance (a b : Int × Pr) : Decidable (LT3 a b) := by unfold LT3; infer_instance
abbrev row (x : Pr) : Int × Pr := (stp x, x)
abbrev pyR (a : Int × Pr) : PyData := PyData.tuple [PyData.int a.1, PyData.tuple [PyData.int a.2.1.1, PyData.int a.2.1.2], PyData.tuple [PyData.int a.2.2.1, PyData.int a.2.2.2]]
abbrev pyK (a : Int × Pr) : PyData := PyData.tuple [PyData.int a.1, PyData.tuple [PyData.tuple [PyData.int a.2.1.1, PyData.int a.2.1.2], PyData.tuple [PyData.int a.2.2.1, PyData.int a.2.2.2]]]
theorem le_R (a b : Int × Pr) : PySem.W.dataLe false pyR a b = !decide (LT3 b a) := by
  show (!PyProof.Rows.lexLt PyProof.Rows.itemOrd (PySem.W.keyToks (pyR b)) (PySem.W.keyToks (pyR a))) = _
  obtain ⟨n, ⟨x, y⟩, u, v⟩ := a
  obtain ⟨n', ⟨x', y'⟩, u', v'⟩ := b
  congr 1
  rw [Bool.eq_iff_iff, decide_eq_true_iff]
  simp [PySem.W.keyToks, PySem.W.keyToksAll, PyProof.Rows.lexLt, PyProof.Rows.itemLt, LT3, LT4]
  omega
theorem le_K (a b : Int × Pr) : PySem.W.dataLe false pyK a b = !decide (LT3 b a) := by
  show (!PyProof.Rows.lexLt PyProof.Rows.itemOrd (PySem.W.keyToks (pyK b)) (PySem.W.keyToks (pyK a))) = _
  obtain ⟨n, ⟨x, y⟩, u, v⟩ := a
  obtain ⟨n', ⟨x', y'⟩, u', v'⟩ := b
  congr 1
  rw [Bool.eq_iff_iff, decide_eq_true_iff]
  simp [PySem.W.keyToks, PySem.W.keyToksAll, PyProof.Rows.lexLt, PyProof.Rows.itemLt, LT3, LT4]
  omega
theorem lt4_anti {a b : Pr} (h1 : ¬ LT4 a b) (h2 : ¬ LT4 b a) : a = b := by
  obtain ⟨⟨x, y⟩, u, v⟩ := a
  obtain ⟨⟨x', y'⟩, u', v'⟩ := b
  unfold LT4 at h1 h2
  simp only at h1 h2
  have : x = x' ∧ y = y' ∧ u = u' ∧ v = v' := by omega
  obtain ⟨rfl, rfl, rfl, rfl⟩ := this
  rfl
theorem lt3_anti {a b : Int × Pr} (h1 : ¬ LT3 a b) (h2 : ¬ LT3 b a) : a = b := by
  unfold LT3 at h1 h2
  have : a.1 = b.1 := by omega
  exact Prod.ext this (lt4_anti (fun h => h1 (.inr ⟨this, h⟩)) (fun h => h2 (.inr ⟨this.symm, h⟩)))
theorem lt4_asym {a b : Pr} (h : LT4 a b) : ¬ LT4 b a := by unfold LT4 at *; omega
theorem sortD_pw {α : Type} (py : α → PyData) (l : List α) : (sortD py l).Pairwise (fun a b => PySem.W.dataLe false py a b = true) := by
  have z := PySem.W.sortLe_total (PyProof.Rows.listOrd PyProof.Rows.itemOrd) false fun b => PySem.W.keyToks (py b)
  exact List.pairwise_mergeSort (le := PySem.W.dataLe false py) z.trans (fun a b => by rcases z.total a b with h | h <;> simp [PySem.W.dataLe, h]) l
/-- sorted by steps, then as they are -/
def byS (l : List Pr) : List Pr := (sortD pyR (l.map row)).map (·.2)
theorem sortR_perm (l : List (Int × Pr)) : (sortD pyR l).Perm l := List.mergeSort_perm _ _
theorem sortR_pw (l : List (Int × Pr)) : (sortD pyR l).Pairwise fun a b => ¬ LT3 b a := (sortD_pw pyR l).imp fun {a b} z => by
  rw [le_R] at z
  simpa using z
theorem byS_row (l : List Pr) : sortD pyR (l.map row) = (byS l).map row := by
  unfold byS
  rw [List.map_map]
  conv => lhs; rw [← List.map_id (sortD pyR (l.map row))]
  refine List.map_congr_left fun x hx => ?_
  obtain ⟨y, _, rfl⟩ := List.mem_map.mp ((sortR_perm _).mem_iff.mp hx)
  rfl
theorem byS_perm (l : List Pr) : (byS l).Perm l := by
  have := (sortR_perm (l.map row)).map (·.2)
  rw [List.map_map] at this
  rw [show ((fun x : Int × Pr => x.2) ∘ row) = id from rfl, List.map_id] at this
  exact this
theorem byS_pw (l : List Pr) : (byS l).Pairwise fun a b => ¬ LT3 (row b) (row a) := by
  have h := sortR_pw (l.map row)
  rw [byS_row, List.pairwise_map] at h
  exact h
theorem byS_mem {l : List Pr} {x : Pr} : x ∈ byS l ↔ x ∈ l := (byS_perm l).mem_iff
theorem byS_uniq {l m : List Pr} (hp : l.Perm m) (hm : m.Pairwise fun a b => ¬ LT3 (row b) (row a)) : byS l = m :=
  List.Perm.eq_of_pairwise (le := fun a b => ¬ LT3 (row b) (row a)) (fun a b _ _ h1 h2 => congrArg Prod.snd (lt3_anti (a := row a) (b := row b) h2 h1)) (byS_pw l) hm ((byS_perm l).trans hp)
/-- the key of the program -/
theorem sortK_row (l : List Pr) : sortK false pyK l (l.map row) = byS l := by
  have hz : l.zip (l.map row) = l.map fun a => (a, row a) := by
    rw [List.zip_map_right, ← List.map_id l, List.zip_map', List.map_map]
    simp
  have hp : ((l.zip (l.map row)).mergeSort (PySem.W.dataLe false fun p => pyK p.2)).Perm (l.zip (l.map row)) := List.mergeSort_perm _ _
  refine (byS_uniq ?_ ?_).symm
  · unfold sortK
    have := (hp.map (·.1)).symm
    rw [hz, List.map_map, show ((fun p : Pr × (Int × Pr) => p.1) ∘ fun a => (a, row a)) = id from rfl, List.map_id] at this
    rw [hz]
    exact this
  · unfold sortK
    rw [List.pairwise_map]
    have h1 := sortD_pw (fun p : Pr × (Int × Pr) => pyK p.2) (l.zip (l.map row))
    have h2 : ∀ p ∈ sortD (fun p : Pr × (Int × Pr) => pyK p.2) (l.zip (l.map row)), p.2 = row p.1 := fun p hp' => by
      have := hp.mem_iff.mp hp'
      rw [hz] at this
      obtain ⟨a, ha, rfl⟩ := List.mem_map.mp this
      rfl
    refine List.Pairwise.imp_of_mem (fun {a b} ha hb z => ?_) h1
    have e : PySem.W.dataLe false (fun p : Pr × (Int × Pr) => pyK p.2) a b = PySem.W.dataLe false pyK a.2 b.2 := rfl
    rw [e, le_K] at z
    rw [← h2 a ha, ← h2 b hb]
    simpa using z
def onb (b p : Cr) : Prop := 0 ≤ p.1 ∧ p.1 ≤ b.1 ∧ 0 ≤ p.2 ∧ p.2 ≤ b.2
/-- a pair of a half -/
structure IsPr (b : Cr) (up : Bool) (x : Pr) : Prop where
  p : onb b x.1
  q : onb b x.2
  lt : x.1.1 < x.2.1
  st : if up then x.1.2 < x.2.2 else x.2.2 < x.1.2
def corners (b : Cr) : List Cr := (rng 0 (b.1 + 1)).flatMap fun x => (rng 0 (b.2 + 1)).map fun y => (x, y)
def prs (b : Cr) (up : Bool) : List Pr := (corners b).flatMap fun p => (rng (p.1 + 1) (b.1 + 1)).flatMap fun x => (if up then rng (p.2 + 1) (b.2 + 1) else rng 0 p.2).map fun y => (p, (x, y))
def allp (b : Cr) : List Pr := (rng 0 (b.1 + 1)).flatMap fun x => (rng 0 (b.2 + 1)).flatMap fun y => (rng (x + 1) (b.1 + 1)).flatMap fun u => ((rng 0 (b.2 + 1)).filter fun v => !decide (v = y)).map fun v => ((x, y), (u, v))
theorem corners_mem {b p : Cr} : p ∈ corners b ↔ onb b p := by
  unfold corners onb
  simp only [List.mem_flatMap, List.mem_map, rng_mem]
  constructor
  · rintro ⟨x, hx, y, hy, rfl⟩
    simp only
    omega
  · intro h
    exact ⟨p.1, by omega, p.2, by omega, rfl⟩
theorem prs_mem {b : Cr} {up : Bool} {x : Pr} : x ∈ prs b up ↔ IsPr b up x := by
  unfold prs
  simp only [List.mem_flatMap, List.mem_map, corners_mem, rng_mem]
  constructor
  · rintro ⟨p, hp, u, hu, v, hv, rfl⟩
    cases up
    · simp only [Bool.false_eq_true, if_false, rng_mem] at hv
      obtain ⟨h1, h2, h3, h4⟩ := id hp
      exact ⟨hp, ⟨by simp only; omega, by simp only; omega, by simp only; omega, by simp only; omega⟩, by simp only; omega, by simp only [Bool.false_eq_true, if_false]; omega⟩
    · simp only [if_true, rng_mem] at hv
      obtain ⟨h1, h2, h3, h4⟩ := id hp
      exact ⟨hp, ⟨by simp only; omega, by simp only; omega, by simp only; omega, by simp only; omega⟩, by simp only; omega, by simp only [if_true]; omega⟩
  · intro ⟨h1, h2, h3, h4⟩
    refine ⟨x.1, h1, x.2.1, ⟨by omega, by have := h2.2.1; omega⟩, x.2.2, ?_, rfl⟩
    obtain ⟨a1, a2, a3, a4⟩ := h2
    cases up
    · simp only [Bool.false_eq_true, if_false] at h4
      simp only [Bool.false_eq_true, if_false, rng_mem]; omega
    · simp only [if_true] at h4
      simp only [if_true, rng_mem]; omega
theorem allp_mem {b : Cr} {x : Pr} : x ∈ allp b ↔ ∃ up, IsPr b up x := by
  unfold allp
  simp only [List.mem_flatMap, List.mem_map, List.mem_filter, rng_mem, Bool.not_eq_true', decide_eq_false_iff_not]
  constructor
  · rintro ⟨x, hx, y, hy, u, hu, v, ⟨hv, hv2⟩, rfl⟩
    refine ⟨decide (y < v), ⟨⟨by simp only; omega, by simp only; omega, by simp only; omega, by simp only; omega⟩, ⟨by simp only; omega, by simp only; omega, by simp only; omega, by simp only; omega⟩, by simp only; omega, ?_⟩⟩
    by_cases c : y < v
    · simp [c]
    · simp [c]; omega
  · rintro ⟨up, ⟨h1, h2, h3, h4⟩⟩
    obtain ⟨a1, a2, a3, a4⟩ := h1
    obtain ⟨b1, b2, b3, b4⟩ := h2
    refine ⟨x.1.1, by omega, x.1.2, by omega, x.2.1, by omega, x.2.2, ⟨by omega, ?_⟩, rfl⟩
    cases up <;> simp at h4 <;> omega
theorem pw_flat {α β : Type} {R : β → β → Prop} {l : List α} {f : α → List β} (h1 : ∀ a ∈ l, (f a).Pairwise R) (h2 : l.Pairwise fun a a' => ∀ x ∈ f a, ∀ y ∈ f a', R x y) : (l.flatMap f).Pairwise R := List.pairwise_flatMap.mpr ⟨h1, h2⟩
theorem prs_pw (b : Cr) (up : Bool) : (prs b up).Pairwise LT4 := by
  refine pw_flat (fun p _ => pw_flat (fun x _ => ?_) ((rng_pw _ _).imp fun {x x'} hx => ?_)) ?_
  · rw [List.pairwise_map]
    have h : ∀ lo hi : Int, (rng lo hi).Pairwise fun y y' => LT4 (p, (x, y)) (p, (x, y')) := fun lo hi => (rng_pw lo hi).imp fun h => .inr ⟨rfl, .inr ⟨rfl, .inr ⟨rfl, h⟩⟩⟩
    split <;> exact h _ _
  · intro a ha c hc
    obtain ⟨y, _, rfl⟩ := List.mem_map.mp ha
    obtain ⟨y', _, rfl⟩ := List.mem_map.mp hc
    exact .inr ⟨rfl, .inr ⟨rfl, .inl hx⟩⟩
  · refine pw_flat (fun x _ => ?_) ((rng_pw _ _).imp fun {x x'} hx => ?_)
    · rw [List.pairwise_map]
      refine (rng_pw _ _).imp fun {y y'} hy a ha c hc => ?_
      obtain ⟨u, _, ha⟩ := List.mem_flatMap.mp ha
      obtain ⟨v, _, rfl⟩ := List.mem_map.mp ha
      obtain ⟨u', _, hc⟩ := List.mem_flatMap.mp hc
      obtain ⟨v', _, rfl⟩ := List.mem_map.mp hc
      exact .inr ⟨rfl, .inl hy⟩
    · intro p hp p' hp' a ha c hc
      obtain ⟨y, _, rfl⟩ := List.mem_map.mp hp
      obtain ⟨y', _, rfl⟩ := List.mem_map.mp hp'
      obtain ⟨u, _, ha⟩ := List.mem_flatMap.mp ha
      obtain ⟨v, _, rfl⟩ := List.mem_map.mp ha
      obtain ⟨u', _, hc⟩ := List.mem_flatMap.mp hc
      obtain ⟨v', _, rfl⟩ := List.mem_map.mp hc
      exact .inl hx
theorem allp_pw (b : Cr) : (allp b).Pairwise LT4 := by
  refine pw_flat (fun x _ => pw_flat (fun y _ => pw_flat (fun u _ => ?_) ((rng_pw _ _).imp fun {u u'} hu => ?_)) ((rng_pw _ _).imp fun {y y'} hy => ?_)) ((rng_pw _ _).imp fun {x x'} hx => ?_)
  · rw [List.pairwise_map]
    exact ((rng_pw _ _).imp fun h => .inr ⟨rfl, .inr ⟨rfl, .inr ⟨rfl, h⟩⟩⟩).filter _
  · intro a ha c hc
    obtain ⟨v, _, rfl⟩ := List.mem_map.mp ha
    obtain ⟨v', _, rfl⟩ := List.mem_map.mp hc
    exact .inr ⟨rfl, .inr ⟨rfl, .inl hu⟩⟩
  · intro a ha c hc
    obtain ⟨u, _, ha⟩ := List.mem_flatMap.mp ha
    obtain ⟨v, _, rfl⟩ := List.mem_map.mp ha
    obtain ⟨u', _, hc⟩ := List.mem_flatMap.mp hc
    obtain ⟨v', _, rfl⟩ := List.mem_map.mp hc
    exact .inr ⟨rfl, .inl hy⟩
  · intro a ha c hc
    obtain ⟨y, _, ha⟩ := List.mem_flatMap.mp ha
    obtain ⟨u, _, ha⟩ := List.mem_flatMap.mp ha
    obtain ⟨v, _, rfl⟩ := List.mem_map.mp ha
    obtain ⟨y', _, hc⟩ := List.mem_flatMap.mp hc
    obtain ⟨u', _, hc⟩ := List.mem_flatMap.mp hc
    obtain ⟨v', _, rfl⟩ := List.mem_map.mp hc
    exact .inl hx
theorem lt4_nd {l : List Pr} (h : l.Pairwise LT4) : l.Nodup := h.imp fun {a b} z e => by subst e; exact lt4_asym z z
theorem lt4_eq {l m : List Pr} (h1 : l.Pairwise LT4) (h2 : m.Pairwise LT4) (hm : ∀ x, x ∈ l ↔ x ∈ m) : l = m :=
  List.Perm.eq_of_pairwise (le := LT4) (fun a b _ _ x y => absurd y (lt4_asym x)) h1 h2 ((List.perm_ext_iff_of_nodup (lt4_nd h1) (lt4_nd h2)).mpr fun {x} => hm x)
theorem is_up {b : Cr} {up : Bool} {x : Pr} (h : IsPr b up x) : up = decide (x.1.2 < x.2.2) := by
  have := h.st
  cases up
  · simp at this; simp; omega
  · simp at this; simp [this]
theorem allp_half (b : Cr) (up : Bool) : (allp b).filter (fun x => decide (x.1.2 < x.2.2) == up) = prs b up := by
  refine lt4_eq ((allp_pw b).filter _) (prs_pw b up) fun x => ?_
  rw [List.mem_filter, allp_mem, prs_mem]
  constructor
  · rintro ⟨⟨u, h⟩, e⟩
    rw [← is_up h] at e
    have : u = up := by simpa using e
    exact this ▸ h
  · intro h
    refine ⟨⟨up, h⟩, ?_⟩
    rw [← is_up h]; simp
theorem forS_col {α γ : Type} {f : γ → List α → R Er (List α)} (out : γ → List α) {N : Nat} : ∀ (L : List γ) (s : List α), (∀ x ∈ L, ∀ s : List α, s.length + (out x).length ≤ N → f x s = .ok (s ++ out x)) → s.length + (L.flatMap out).length ≤ N → forS f L s = .ok (s ++ L.flatMap out)
  | [], s, _, _ => by simp [forS]
  | x :: L, s, h, hn => by
    rw [List.flatMap_cons, List.length_append] at hn
    unfold forS
    rw [h x List.mem_cons_self s (by omega), R.bind_ok, forS_col out L _ (fun y hy => h y (List.mem_cons_of_mem _ hy)) (by rw [List.length_append]; omega), List.flatMap_cons, List.append_assoc]
theorem forS_col2 {α β γ σ : Type} (mk : List α → List β → σ) {f : γ → σ → R Er σ} (o1 : γ → List α) (o2 : γ → List β) {N : Nat} : ∀ (L : List γ) (c1 : List α) (c2 : List β), (∀ x ∈ L, ∀ (c1 : List α) (c2 : List β), c1.length + (o1 x).length ≤ N → c2.length + (o2 x).length ≤ N → f x (mk c1 c2) = .ok (mk (c1 ++ o1 x) (c2 ++ o2 x))) →
    c1.length + (L.flatMap o1).length ≤ N → c2.length + (L.flatMap o2).length ≤ N → forS f L (mk c1 c2) = .ok (mk (c1 ++ L.flatMap o1) (c2 ++ L.flatMap o2))
  | [], c1, c2, _, _, _ => by simp [forS]
  | x :: L, c1, c2, h, hn, hm => by
    rw [List.flatMap_cons, List.length_append] at hn hm
    unfold forS
    rw [h x List.mem_cons_self c1 c2 (by omega) (by omega), R.bind_ok, forS_col2 mk o1 o2 L _ _ (fun y hy => h y (List.mem_cons_of_mem _ hy)) (by rw [List.length_append]; omega) (by rw [List.length_append]; omega), List.flatMap_cons, List.flatMap_cons, List.append_assoc, List.append_assoc]
theorem flatMap_len {α β : Type} {f : α → List β} {k : Nat} : ∀ {l : List α}, (∀ x ∈ l, (f x).length ≤ k) → (l.flatMap f).length ≤ l.length * k
  | [], _ => by simp
  | x :: l, h => by
    rw [List.flatMap_cons, List.length_append, List.length_cons, Nat.succ_mul]
    have := h x List.mem_cons_self
    have := flatMap_len fun y hy => h y (List.mem_cons_of_mem _ hy)
    omega
theorem flatMap_if {α β : Type} (p : α → Bool) (f : α → β) (l : List α) : (l.flatMap fun x => if p x then [f x] else []) = (l.filter p).map f := by
  induction l with
  | nil => rfl
  | cons x l ih =>
    rw [List.flatMap_cons, ih, List.filter_cons]
    cases p x <;> rfl
theorem rIx_m2 {α : Type} {l : List α} (h : 2 ≤ l.length) : (rIx l (-(2 : Int)) : R Er α) = .ok (l[l.length - 2]'(by omega)) := by
  have : L2.atI l (-(2 : Int)) = some (l[l.length - 2]'(by omega)) := by
    unfold L2.atI L2.ixN
    have e : ¬ (0 : Int) ≤ -(2 : Int) := by omega
    simp only [e, if_false]
    have e2 : -(l.length : Int) ≤ -(2 : Int) := by omega
    simp only [e2, if_true]
    show l[(-(2 : Int) + (l.length : Int)).toNat]? = _
    rw [show (-(2 : Int) + (l.length : Int)).toNat = l.length - 2 by omega]
    exact List.getElem?_eq_getElem _
  unfold Cp.rIx
  rw [this]
theorem dget_put {α β : Type} [DecidableEq α] (d : List (α × β)) (a : α) (b : β) (c : α) : dget (dput d a b) c = if c = a then some b else dget d c := by
  unfold dput
  by_cases h : dhas d a = true
  · rw [if_pos h]
    by_cases e : c = a
    · rw [if_pos e]
      subst e
      unfold dhas at h
      induction d with
      | nil => cases h
      | cons x d ih =>
        unfold dget at *
        rw [List.map_cons, List.find?_cons]
        by_cases hx : x.1 = c
        · rw [if_pos hx]; simp [hx]
        · rw [if_neg hx]
          simp only [hx, decide_false]
          rw [List.any_cons] at h
          simp only [hx, decide_false, Bool.false_or] at h
          exact ih h
    · rw [if_neg e]
      clear h
      induction d with
      | nil => rfl
      | cons x d ih =>
        unfold dget at *
        rw [List.map_cons, List.find?_cons, List.find?_cons]
        by_cases hx : x.1 = a
        · rw [if_pos hx]
          have : ¬ x.1 = c := fun z => e (z.symm.trans hx)
          simp only [this, decide_false]
          exact ih
        · rw [if_neg hx]
          by_cases hc : x.1 = c
          · simp [hc]
          · simp only [hc, decide_false]; exact ih
  · rw [if_neg h]
    unfold dget
    rw [List.find?_append]
    by_cases e : c = a
    · rw [if_pos e]
      subst e
      have : d.find? (fun x => decide (x.1 = c)) = none := by
        rw [List.find?_eq_none]
        intro x hx hz
        apply h
        unfold dhas
        rw [List.any_eq_true]
        exact ⟨x, hx, hz⟩
      rw [this]
      simp
    · rw [if_neg e]
      have : ¬ a = c := fun z => e z.symm
      simp [this]
abbrev Dc := List (Pr × PySem.Str)
def fl (up : Bool) (p : Cr) : Cr := if up then p else (p.1, -p.2)
def stL (up : Bool) : PySem.Str := if up then "N" else "S"
def ltr (up e : Bool) : PySem.Str := if e then "E" else stL up
def tb (d : Dc) (up : Bool) : Tb := fun p q => decide (dget d (fl up p, fl up q) = some ("E" : PySem.Str))
theorem fl_fl (up : Bool) (p : Cr) : fl up (fl up p) = p := by
  cases up
  · exact Prod.ext rfl (Int.neg_neg _)
  · rfl
theorem fl_inj {up : Bool} {p q : Cr} (h : fl up p = fl up q) : p = q := by rw [← fl_fl up p, h, fl_fl]
theorem fl_1 (up : Bool) (p : Cr) : (fl up p).1 = p.1 := by cases up <;> rfl
theorem fl_t (p : Cr) : fl true p = p := rfl
theorem fl_f (p : Cr) : fl false p = (p.1, -p.2) := rfl
theorem ltr_dec (up e e' : Bool) : decide (ltr up e = ltr up e') = (e == e') := by
  cases up <;> cases e <;> cases e' <;> decide +kernel
def Sb (b : Cr) (up : Bool) : Cr → Prop := fun p => onb b (fl up p)
theorem sb_cvx (b : Cr) (up : Bool) : Cvx (Sb b up) := fun p q r hp hq h1 h2 => by
  obtain ⟨a1, a2⟩ := h1
  obtain ⟨b1, b2⟩ := h2
  obtain ⟨c1, c2, c3, c4⟩ := hp
  obtain ⟨d1, d2, d3, d4⟩ := hq
  cases up
  · simp only [fl_f] at *
    exact ⟨by simp only [fl_f]; omega, by simp only [fl_f]; omega, by simp only [fl_f]; omega, by simp only [fl_f]; omega⟩
  · simp only [fl_t] at *
    exact ⟨by simp only [fl_t]; omega, by simp only [fl_t]; omega, by simp only [fl_t]; omega, by simp only [fl_t]; omega⟩
/-- the steps of a pair -/
def dx (up : Bool) (x : Pr) : Nat := dst (fl up x.1) (fl up x.2)
theorem IsPr.le {b : Cr} {up : Bool} {x : Pr} (h : IsPr b up x) : le2 (fl up x.1) (fl up x.2) ∧ (fl up x.1).1 < (fl up x.2).1 ∧ (fl up x.1).2 < (fl up x.2).2 := by
  obtain ⟨_, _, h1, h2⟩ := h
  cases up
  · simp only [Bool.false_eq_true, if_false] at h2
    simp only [fl_f]
    exact ⟨⟨by simp only; omega, by simp only; omega⟩, h1, by omega⟩
  · simp only [if_true] at h2
    simp only [fl_t]
    exact ⟨⟨by omega, by omega⟩, h1, h2⟩
theorem IsPr.stp {b : Cr} {up : Bool} {x : Pr} (h : IsPr b up x) : stp x = dx up x := by
  have e := h.le.1.dst
  unfold dx
  rw [e]
  obtain ⟨_, _, h1, h2⟩ := h
  unfold CpLaw.stp
  rw [fl_1, fl_1]
  cases up
  · simp only [Bool.false_eq_true, if_false] at h2
    simp only [fl_f]
    rw [if_pos (by omega)]; split <;> omega
  · simp only [if_true] at h2
    simp only [fl_t]
    rw [if_pos (by omega)]; split <;> omega
theorem IsPr.two {b : Cr} {up : Bool} {x : Pr} (h : IsPr b up x) : 2 ≤ dx up x := by
  obtain ⟨h1, h2, h3⟩ := h.le
  have e := h1.dst
  unfold dx
  omega
theorem IsPr.mk' {b : Cr} {up : Bool} {p q : Cr} (hp : Sb b up p) (hq : Sb b up q) (h1 : p.1 < q.1) (h2 : p.2 < q.2) : IsPr b up (fl up p, fl up q) := by
  refine ⟨hp, hq, by simp only [fl_1]; exact h1, ?_⟩
  cases up
  · simp only [Bool.false_eq_true, if_false, fl_f]; omega
  · simp only [if_true, fl_t]; omega
/-- the table has a letter for each pair of at most n steps -/
def Cov (d : Dc) (b : Cr) (up : Bool) (n : Nat) : Prop := ∀ x, IsPr b up x → dx up x ≤ n → ∃ e, dget d x = some (ltr up e)
theorem Cov.le {d : Dc} {b : Cr} {up : Bool} {n m : Nat} (c : Cov d b up n) (h : m ≤ n) : Cov d b up m := fun x hx hm => c x hx (Nat.le_trans hm h)
theorem letter_ok {d : Dc} {b : Cr} {up : Bool} {n : Nat} (c : Cov d b up n) {p q : Cr} (hp : Sb b up p) (hq : Sb b up q) (h : le2 p q) (h0 : 0 < dst p q) (hn : dst p q ≤ n) :
    m_letter d (fl up p) (fl up q) = .ok (ltr up (fs (tb d up) p q)) := by
  have e := h.dst
  obtain ⟨h1, h2⟩ := id h
  unfold m_letter fs
  have e2 : (fl up p).2 = (fl up q).2 ↔ p.2 = q.2 := by
    cases up
    · simp only [fl_f]; omega
    · rfl
  by_cases c1 : p.2 = q.2
  · rw [if_pos (by simpa using e2.mpr c1), if_pos c1]; rfl
  · rw [if_neg (by simpa using fun z => c1 (e2.mp z)), if_neg c1]
    by_cases c2 : p.1 = q.1
    · rw [if_pos (by simpa [fl_1] using c2), if_pos c2]
      cases up
      · rw [if_neg (show ¬ decide ((fl false p).2 < (fl false q).2) = true from by rw [decide_eq_true_iff]; show ¬ (-p.2 < -q.2); omega)]; rfl
      · rw [if_pos (show decide ((fl true p).2 < (fl true q).2) = true from by rw [decide_eq_true_iff]; show p.2 < q.2; omega)]; rfl
    · rw [if_neg (by simpa [fl_1] using c2), if_neg c2]
      have hx := IsPr.mk' hp hq (show p.1 < q.1 by omega) (show p.2 < q.2 by omega)
      obtain ⟨l, hl⟩ := c _ hx (by unfold dx; rw [fl_fl, fl_fl]; exact hn)
      unfold tb
      rw [hl]
      unfold rGet
      rw [hl]
      have : decide (some (ltr up l) = some ("E" : PySem.Str)) = l := by cases up <;> cases l <;> decide +kernel
      rw [this]
      rfl
theorem moved_ok (up e : Bool) (p : Cr) : m_moved (fl up p) (ltr up e) = .ok (fl up (mv p e)) := by
  cases up <;> cases e
  · refine (show m_moved (fl false p) "S" = .ok ((fl false p).1, (fl false p).2 - 1) from rfl).trans ?_
    rw [mv_f, fl_f, fl_f]
    simp only
    rw [show -p.2 - 1 = -(p.2 + 1) by omega]
  · rfl
  · rfl
  · rfl
/-- the walk of a table -/
def wk (d : Dc) (up : Bool) (p q : Cr) : List Cr := (List.range (dst p q + 1)).map fun i => fl up (ps (tb d up) q i p)
theorem wk_len (d : Dc) (up : Bool) (p q : Cr) : (wk d up p q).length = dst p q + 1 := by unfold wk; simp
theorem walk_loop {d : Dc} {b : Cr} {up : Bool} {q : Cr} (hq : Sb b up q) (f : Int → Cr × List Cr → R Er ((Cr × List Cr) ⊕ (Cr × List Cr)))
    (hf : ∀ k p w, f k (p, w) = if decide (p = fl up q) then .ok (.inr (p, w)) else (((m_letter d p (fl up q)).bind fun v5 => R.ok (p, v5)).bind fun v6 => m_moved v6.1 v6.2).bind fun p' => (rApp w p').bind fun c => .ok (.inl (p', w ++ [c]))) :
    ∀ (m : Nat) (L : List Int) (p : Cr) (w : List Cr), Cov d b up m → Sb b up p → le2 p q → dst p q = m → m < L.length → w.length + m ≤ 1000000 →
      forB f L (fl up p, w) = .ok (fl up q, w ++ (List.range m).map fun i => fl up (ps (tb d up) q (i + 1) p))
  | 0, k :: L, p, w, c, hp, h, hd, hL, hw => by
    have := dst_zero h hd
    subst this
    unfold forB
    rw [hf, if_pos (by simp)]
    simp
  | _, [], _, _, _, _, _, _, hL, _ => absurd hL (by simp)
  | m + 1, k :: L, p, w, c, hp, h, hd, hL, hw => by
    unfold forB
    have hne : ¬ fl up p = fl up q := fun e => by
      have := fl_inj e
      subst this
      unfold dst at hd
      omega
    rw [hf, if_neg (by simpa using hne), letter_ok c hp hq h (by omega) (by omega)]
    simp only [bo]
    rw [moved_ok]
    simp only [bo]
    have ha : (rApp w (fl up (mv p (fs (tb d up) p q))) : R Er Cr) = .ok (fl up (mv p (fs (tb d up) p q))) := (wp_app (P := (· = fl up (mv p (fs (tb d up) p q)))) (by omega) rfl).eq
    rw [ha]
    simp only [bo]
    obtain ⟨a1, a2⟩ := nx_le (t := tb d up) h (by omega)
    have ih := walk_loop hq f hf m L (nx (tb d up) p q) (w ++ [fl up (nx (tb d up) p q)]) (c.le (by omega)) (sb_cvx b up p q _ hp hq a2 a1) a1 (dst_nx hd) (by simp at hL; omega) (by simp; omega)
    refine ih.trans ?_
    rw [List.append_assoc]
    congr 2
    rw [List.range_succ_eq_map, List.map_cons, List.map_map]
    rfl
theorem walk_ok {d : Dc} {b : Cr} {up : Bool} {p q : Cr} (hp : Sb b up p) (hq : Sb b up q) (h : le2 p q) (c : Cov d b up (dst p q)) (h40 : dst p q < 40) :
    m_walk d (fl up p) (fl up q) = .ok (wk d up p q) := by
  unfold m_walk
  rw [R.bind_ok, rRng_ok (by omega) (by omega) (by omega) (by omega), R.bind_ok]
  rw [walk_loop hq _ (fun k p w => rfl) (dst p q) _ p [fl up p] c hp h rfl (by rw [rng_len]; omega) (by simp; omega)]
  rw [R.bind_ok]
  unfold wk
  rw [List.range_succ_eq_map, List.map_cons, List.map_map]
  rfl
theorem sb_dst {b : Cr} {up : Bool} {p q : Cr} (h1 : b.1 ≤ 8) (h2 : b.2 ≤ 8) (hp : Sb b up p) (hq : Sb b up q) (h : le2 p q) : dst p q ≤ 16 := by
  have e := h.dst
  obtain ⟨a1, a2, a3, a4⟩ := hp
  obtain ⟨c1, c2, c3, c4⟩ := hq
  rw [fl_1] at a1 a2 c1 c2
  cases up
  · simp only [fl_f] at a3 a4 c3 c4; omega
  · simp only [fl_t] at a3 a4 c3 c4; omega
def quad (b : Cr) : List Pr := (rng 0 (b.1 + 1)).flatMap fun x => (rng 0 (b.2 + 1)).flatMap fun y => (rng (x + 1) (b.1 + 1)).flatMap fun u => (rng 0 (b.2 + 1)).map fun v => ((x, y), (u, v))
theorem quad_flat {α : Type} (b : Cr) (o : Pr → List α) : (quad b).flatMap o = (rng 0 (b.1 + 1)).flatMap fun x => (rng 0 (b.2 + 1)).flatMap fun y => (rng (x + 1) (b.1 + 1)).flatMap fun u => (rng 0 (b.2 + 1)).flatMap fun v => o ((x, y), (u, v)) := by
  unfold quad
  simp only [List.flatMap_assoc, List.flatMap_map]
theorem quad_all (b : Cr) : (quad b).filter (fun x => !decide (x.2.2 = x.1.2)) = allp b := by
  unfold quad allp
  simp only [List.filter_flatMap, List.filter_map]
  rfl
theorem quad_half (b : Cr) (up : Bool) : (quad b).filter (fun x => if up then decide (x.1.2 < x.2.2) else decide (x.2.2 < x.1.2)) = prs b up := by
  rw [← allp_half b up, ← quad_all, List.filter_filter]
  refine List.filter_congr fun x _ => ?_
  cases up
  · simp only [Bool.false_eq_true, if_false]
    rw [Bool.eq_iff_iff]
    simp
    omega
  · simp only [if_true]
    rw [Bool.eq_iff_iff]
    simp
    omega
theorem rng_le {lo hi : Int} {k : Nat} (h : hi - lo ≤ k) : (rng lo hi).length ≤ k := by rw [rng_len]; omega
theorem quad_len {b : Cr} (h1 : b.1 ≤ 8) (h2 : b.2 ≤ 8) : (quad b).length ≤ 6561 := by
  unfold quad
  refine Nat.le_trans (flatMap_len (k := 729) fun x hx => ?_) ?_
  · refine Nat.le_trans (flatMap_len (k := 81) fun y _ => ?_) ?_
    · refine Nat.le_trans (flatMap_len (k := 9) fun u _ => ?_) ?_
      · rw [List.length_map]; exact rng_le (by omega)
      · have := rng_mem.mp hx
        have := rng_le (lo := x + 1) (hi := b.1 + 1) (k := 9) (by omega)
        omega
    · have := rng_le (lo := 0) (hi := b.2 + 1) (k := 9) (by omega)
      omega
  · have := rng_le (lo := 0) (hi := b.1 + 1) (k := 9) (by omega)
    omega
theorem quad_lt {b : Cr} : ∀ x ∈ quad b, x.1.1 < x.2.1 := fun x hx => by
  unfold quad at hx
  simp only [List.mem_flatMap, List.mem_map, rng_mem] at hx
  obtain ⟨x, _, y, _, u, hu, v, _, rfl⟩ := hx
  simp only; omega
theorem pairs_ok {b : Cr} (h1 : 0 ≤ b.1) (h2 : b.1 ≤ 8) (h3 : 0 ≤ b.2) (h4 : b.2 ≤ 8) : m_pairs b = .ok ((byS (allp b)).map row) := by
  have hl := quad_len h2 h4
  have hq : ∀ x ∈ quad b, x.1.1 < x.2.1 := quad_lt
  unfold m_pairs
  rw [R.bind_ok, rRng_ok (by omega) (by omega) (by omega) (by omega), R.bind_ok]
  let o : Pr → List (Int × Pr) := fun x => if !decide (x.2.2 = x.1.2) then [(x.2.1 - x.1.1 + (if (x.2.2 - x.1.2) < 0 then -(x.2.2 - x.1.2) else (x.2.2 - x.1.2)), x)] else []
  have hout : (quad b).flatMap o = (allp b).map row := by
    rw [show o = fun x => if !decide (x.2.2 = x.1.2) then [(fun x : Pr => (x.2.1 - x.1.1 + (if (x.2.2 - x.1.2) < 0 then -(x.2.2 - x.1.2) else (x.2.2 - x.1.2)), x)) x] else [] from rfl, flatMap_if, quad_all]
    refine List.map_congr_left fun x hx => ?_
    obtain ⟨up, hp⟩ := allp_mem.mp hx
    have := hp.lt
    refine Prod.ext ?_ rfl
    show _ = stp x
    unfold stp
    simp only
    split <;> split <;> split <;> omega
  have hlen : ((allp b).map row).length ≤ 6561 := by
    rw [List.length_map, ← quad_all]
    exact Nat.le_trans (List.length_filter_le ..) hl
  have e : ∀ (f : Int → List (Int × Pr) → R Er (List (Int × Pr))), (∀ x ∈ rng 0 (b.1 + 1), ∀ s : List (Int × Pr), s.length + ((rng 0 (b.2 + 1)).flatMap fun y => (rng (x + 1) (b.1 + 1)).flatMap fun u => (rng 0 (b.2 + 1)).flatMap fun v => o ((x, y), (u, v))).length ≤ 10000 → f x s = .ok (s ++ (rng 0 (b.2 + 1)).flatMap fun y => (rng (x + 1) (b.1 + 1)).flatMap fun u => (rng 0 (b.2 + 1)).flatMap fun v => o ((x, y), (u, v)))) →
      forS f (rng 0 (b.1 + 1)) [] = .ok ((allp b).map row) := fun f hf => by
    rw [forS_col (N := 10000) (fun x => (rng 0 (b.2 + 1)).flatMap fun y => (rng (x + 1) (b.1 + 1)).flatMap fun u => (rng 0 (b.2 + 1)).flatMap fun v => o ((x, y), (u, v))) _ _ hf (by rw [← quad_flat, hout]; simp only [List.length_nil]; omega), ← quad_flat, hout]
    rfl
  rw [e _ fun x hx s hs => ?_]
  · show R.ok (sortD pyR ((allp b).map row)) = _
    rw [byS_row]
  · have hx := rng_mem.mp hx
    rw [rRng_ok (by omega) (by omega) (by omega) (by omega), R.bind_ok]
    rw [forS_col (N := 10000) (fun y => (rng (x + 1) (b.1 + 1)).flatMap fun u => (rng 0 (b.2 + 1)).flatMap fun v => o ((x, y), (u, v))) _ _ (fun y hy s hs => ?_) hs]
    · rfl
    · have hy := rng_mem.mp hy
      rw [rRng_ok (by omega) (by omega) (by omega) (by omega), R.bind_ok]
      rw [forS_col (N := 10000) (fun u => (rng 0 (b.2 + 1)).flatMap fun v => o ((x, y), (u, v))) _ _ (fun u hu s hs => ?_) hs]
      · rfl
      · rw [R.bind_ok]
        rw [forS_col (N := 10000) (fun v => o ((x, y), (u, v))) _ _ (fun v hv s hs => ?_) hs]
        · rfl
        · by_cases c : v = y
          · have e0 : o ((x, y), (u, v)) = [] := if_neg (by simpa using c)
            rw [if_neg (by simpa using c), e0, List.append_nil]
          · have e0 : o ((x, y), (u, v)) = [(u - x + (if (v - y) < 0 then -(v - y) else (v - y)), ((x, y), (u, v)))] := if_pos (by simpa using c)
            rw [if_pos (by simpa using c), e0]
            rw [e0] at hs
            simp only [List.length_singleton] at hs
            rw [(wp_app (P := (· = (u - x + (if (v - y) < 0 then -(v - y) else (v - y)), ((x, y), (u, v))))) (by omega) rfl).eq]
            rfl
structure Pln (b : Cr) (d : Dc) : Prop where
  a : ∀ up x, IsPr b up x → ∃ e, dget d x = some (ltr up e)
  f : ∀ up x, IsPr b up x → Fine (tb d up) (fl up x.1) (fl up x.2)
/-- .. as far as it is filled -/
structure FI (b : Cr) (done : List Pr) (d : Dc) : Prop where
  a : ∀ up x, IsPr b up x → x ∈ done → ∃ e, dget d x = some (ltr up e)
  f : ∀ up x, IsPr b up x → x ∈ done → Fine (tb d up) (fl up x.1) (fl up x.2)
theorem before {b : Cr} {done todo : List Pr} {x y : Pr} {up up' : Bool} (hL : byS (allp b) = done ++ x :: todo) (hx : IsPr b up x) (hy : IsPr b up' y) (h : dx up' y < dx up x) : y ∈ done := by
  have hm : y ∈ byS (allp b) := byS_mem.mpr (allp_mem.mpr ⟨up', hy⟩)
  have hs := hx.stp
  have hs' := hy.stp
  rw [hL] at hm
  rcases List.mem_append.mp hm with q | q
  · exact q
  · exfalso
    rcases List.mem_cons.mp q with rfl | q
    · omega
    · have pw := byS_pw (allp b)
      rw [hL] at pw
      have := (List.pairwise_cons.mp (List.pairwise_append.mp pw).2.1).1 y q
      exact this (.inl (by show CpLaw.stp y < CpLaw.stp x; omega))
theorem FI.cov {b : Cr} {done todo : List Pr} {x : Pr} {up : Bool} {d : Dc} (i : FI b done d) (hL : byS (allp b) = done ++ x :: todo) (hx : IsPr b up x) {n : Nat} (hn : dx up x = n + 1) : Cov d b up n :=
  fun y hy hd => i.a up y hy (before hL hx hy (by omega))
theorem FI.fine {b : Cr} {done todo : List Pr} {x : Pr} {up : Bool} {d : Dc} (i : FI b done d) (hL : byS (allp b) = done ++ x :: todo) (hx : IsPr b up x) {n : Nat} (hn : dx up x = n + 1) : FineS (tb d up) (Sb b up) n :=
  fun p q hp hq h1 h2 hd => by
    have hy := IsPr.mk' hp hq h1 h2
    have := i.f up _ hy (before hL hx hy (by unfold dx at *; rw [fl_fl, fl_fl]; omega))
    simp only [fl_fl] at this
    exact this
theorem tb_put (d : Dc) (x : Pr) (l : PySem.Str) (up : Bool) (p q : Cr) : tb (dput d x l) up p q = if (fl up p, fl up q) = x then decide (some l = some ("E" : PySem.Str)) else tb d up p q := by
  unfold tb
  rw [dget_put]
  split <;> rfl
theorem ltr_e (up e : Bool) : decide (some (ltr up e) = some ("E" : PySem.Str)) = e := by cases up <;> cases e <;> decide +kernel
/-- the letter that is good for a pair -/
def good (d : Dc) (up : Bool) (x : Pr) (e : Bool) : Bool := fs (tb d up) (fl up x.1) (bk (fl up x.2) (ls (tb d up) (fl up x.2) (dx up x - 1) (mv (fl up x.1) e))) == e
theorem mv_le {p q : Cr} (h1 : p.1 < q.1) (h2 : p.2 < q.2) (e : Bool) : le2 p (mv p e) ∧ le2 (mv p e) q := by
  cases e
  · rw [mv_f]; exact ⟨⟨by simp, by simp only; omega⟩, ⟨by simp only; omega, by simp only; omega⟩⟩
  · rw [mv_t]; exact ⟨⟨by simp only; omega, by simp⟩, ⟨by simp only; omega, by simp only; omega⟩⟩
theorem bk_le {p q : Cr} (h1 : p.1 < q.1) (h2 : p.2 < q.2) (e : Bool) : le2 p (bk q e) ∧ le2 (bk q e) q := by
  cases e
  · rw [bk_f]; exact ⟨⟨by simp only; omega, by simp only; omega⟩, ⟨by simp, by simp only; omega⟩⟩
  · rw [bk_t]; exact ⟨⟨by simp only; omega, by simp only; omega⟩, ⟨by simp only; omega, by simp⟩⟩
theorem FI.next {b : Cr} {done todo : List Pr} {x : Pr} {up e : Bool} {d : Dc} (i : FI b done d) (hL : byS (allp b) = done ++ x :: todo) (hx : IsPr b up x) (hg : good d up x e = true) : FI b (done ++ [x]) (dput d x (ltr up e)) := by
  have hd2 := hx.two
  obtain ⟨n, hn⟩ : ∃ n, dx up x = n + 1 := ⟨dx up x - 1, by omega⟩
  obtain ⟨l1, l2, l3⟩ := hx.le
  have same : ∀ up' (y : Pr), y ≠ x → tb (dput d x (ltr up e)) up' (fl up' y.1) (fl up' y.2) = tb d up' (fl up' y.1) (fl up' y.2) := fun up' y hy => by
    rw [tb_put, fl_fl, fl_fl, if_neg hy]
  have agr : ∀ up' m, m < dx up x → Agr (tb d up') (tb (dput d x (ltr up e)) up') (Sb b up') m := fun up' m hm p q hp hq h1 h2 hdm => by
    rw [tb_put, if_neg]
    intro z
    have hy := IsPr.mk' hp hq h1 h2
    rw [z] at hy
    have e1 := hx.stp
    have e2 := hy.stp
    have : dx up' x = dst p q := by unfold dx; rw [← z]; simp only [fl_fl]
    omega
  refine ⟨fun up' y hy hm => ?_, fun up' y hy hm => ?_⟩
  · rw [dget_put]
    by_cases c : y = x
    · rw [if_pos c]
      subst c
      have : up' = up := by rw [is_up hy, is_up hx]
      rw [this]
      exact ⟨e, rfl⟩
    · rw [if_neg c]
      rcases List.mem_append.mp hm with q | q
      · exact i.a up' y hy q
      · exact absurd (List.mem_singleton.mp q) c
  · by_cases c : y = x
    · subst c
      have : up' = up := by rw [is_up hy, is_up hx]
      subst this
      have e0 : fs (tb (dput d y (ltr up' e)) up') (fl up' y.1) (fl up' y.2) = e := by
        unfold fs
        rw [if_neg (by omega), if_neg (by omega), tb_put, fl_fl, fl_fl, if_pos rfl, ltr_e]
      have n1 : nx (tb (dput d y (ltr up' e)) up') (fl up' y.1) (fl up' y.2) = mv (fl up' y.1) e := by unfold nx; rw [e0]
      obtain ⟨m1, m2⟩ := mv_le l2 l3 e
      have sm := sb_cvx b up' _ _ _ (show Sb b up' (fl up' y.1) by unfold Sb; rw [fl_fl]; exact hx.p) (show Sb b up' (fl up' y.2) by unfold Sb; rw [fl_fl]; exact hx.q) m1 m2
      obtain ⟨k, rfl⟩ : ∃ k, n = k + 1 := ⟨n - 1, by omega⟩
      have hdm : dst (mv (fl up' y.1) e) (fl up' y.2) = k + 1 := dst_mv hn
      have el := ls_congr (sb_cvx b up') (agr up' (k + 1) (by omega)) sm (show Sb b up' (fl up' y.2) by unfold Sb; rw [fl_fl]; exact hx.q) m2 hdm
      have ep : pen (tb (dput d y (ltr up' e)) up') (fl up' y.1) (fl up' y.2) = bk (fl up' y.2) (ls (tb d up') (fl up' y.2) (k + 1) (mv (fl up' y.1) e)) := by
        unfold pen
        rw [show dst (fl up' y.1) (fl up' y.2) = k + 2 from hn]
        show bk _ (ls _ _ (k + 1) (nx _ _ _)) = _
        rw [n1, ← el]
      unfold Fine
      rw [ep, e0]
      unfold good at hg
      rw [show dx up' y - 1 = k + 1 by omega] at hg
      have hg := eq_of_beq hg
      obtain ⟨b1, b2⟩ := bk_le l2 l3 (ls (tb d up') (fl up' y.2) (k + 1) (mv (fl up' y.1) e))
      have sb := sb_cvx b up' _ _ _ (show Sb b up' (fl up' y.1) by unfold Sb; rw [fl_fl]; exact hx.p) (show Sb b up' (fl up' y.2) by unfold Sb; rw [fl_fl]; exact hx.q) b1 b2
      rw [← fs_congr (fun h1 h2 => agr up' (k + 1) (by omega) _ _ (show Sb b up' (fl up' y.1) by unfold Sb; rw [fl_fl]; exact hx.p) sb h1 h2 (by rw [show dst (fl up' y.1) (bk (fl up' y.2) _) = k + 1 from dst_bk hn]; omega)) b1]
      exact hg
    · rcases List.mem_append.mp hm with q | q
      · have f := i.f up' y hy q
        obtain ⟨t1, t2, t3⟩ := hy.le
        have hle : dx up' y ≤ dx up x := by
          have pw := byS_pw (allp b)
          rw [hL] at pw
          have := (List.pairwise_append.mp pw).2.2 y q x List.mem_cons_self
          have e1 := hx.stp
          have e2 := hy.stp
          apply Classical.byContradiction
          intro z
          exact this (.inl (by show CpLaw.stp x < CpLaw.stp y; omega))
        have h2 := hy.two
        exact Fine.congr (sb_cvx b up') (agr up' _ (show dst (fl up' y.1) (fl up' y.2) - 1 < dx up x by unfold dx at *; omega)) (same up' y c).symm (by unfold Sb; rw [fl_fl]; exact hy.p) (by unfold Sb; rw [fl_fl]; exact hy.q) t1 h2 f
      · exact absurd (List.mem_singleton.mp q) c
/-- one of the two is good -/
theorem FI.some {b : Cr} {done todo : List Pr} {x : Pr} {up : Bool} {d : Dc} (i : FI b done d) (hL : byS (allp b) = done ++ x :: todo) (hx : IsPr b up x) : good d up x true = true ∨ good d up x false = true := by
  have hd2 := hx.two
  obtain ⟨n, hn⟩ : ∃ n, dx up x = n + 1 := ⟨dx up x - 1, by omega⟩
  obtain ⟨l1, l2, l3⟩ := hx.le
  obtain ⟨e, he⟩ := unstuck (sb_cvx b up) (i.fine hL hx hn) (show Sb b up (fl up x.1) by unfold Sb; rw [fl_fl]; exact hx.p) (show Sb b up (fl up x.2) by unfold Sb; rw [fl_fl]; exact hx.q) l2 l3 hn
  have g : good d up x e = true := by
    unfold good
    rw [show dx up x - 1 = n by omega, he]
    simp
  cases e
  · exact .inr g
  · exact .inl g
theorem option_ok {b : Cr} {done todo : List Pr} {x : Pr} {up : Bool} {d : Dc} (h2 : b.1 ≤ 8) (h4 : b.2 ≤ 8) (i : FI b done d) (hL : byS (allp b) = done ++ x :: todo) (hx : IsPr b up x) (e : Bool) (s : List PySem.Str) (hs : s.length ≤ 10) :
    (((((m_moved x.1 (ltr up e)).bind fun v14 => R.ok (v14, x.2)).bind fun v15 => R.ok (d, v15)).bind fun v16 => (m_walk v16.1 v16.2.1 v16.2.2)).bind fun v17 => (rCatL ([x.1] : List (Int × Int)) v17)).bind (fun (line_13 : (List (Int × Int))) =>
      ((((((rIx line_13 (-(2 : Int)))).bind fun v18 => R.ok (x.1, v18)).bind fun v19 => R.ok (d, v19)).bind fun v20 => (m_letter v20.1 v20.2.1 v20.2.2)).bind fun v21 => R.ok (decide (v21 = ltr up e))).bind fun v24 => if v24 then (((rApp s (ltr up e))).bind fun (c23 : PySem.Str) =>
      R.ok (s ++ [c23])) else (R.ok s)) = (.ok (if good d up x e then s ++ [ltr up e] else s) : R Er (List PySem.Str)) := by
  have hd2 := hx.two
  obtain ⟨k, hn⟩ : ∃ k, dx up x = k + 2 := ⟨dx up x - 2, by omega⟩
  obtain ⟨l1, l2, l3⟩ := hx.le
  have sp : Sb b up (fl up x.1) := by unfold Sb; rw [fl_fl]; exact hx.p
  have sq : Sb b up (fl up x.2) := by unfold Sb; rw [fl_fl]; exact hx.q
  obtain ⟨m1, m2⟩ := mv_le l2 l3 e
  have sm := sb_cvx b up _ _ _ sp sq m1 m2
  have hdm : dst (mv (fl up x.1) e) (fl up x.2) = k + 1 := dst_mv hn
  have cov := i.cov hL hx (n := k + 1) (by omega)
  have e1 : m_moved x.1 (ltr up e) = .ok (fl up (mv (fl up x.1) e)) := by
    have := moved_ok up e (fl up x.1)
    rw [fl_fl] at this
    exact this
  have h16 := sb_dst h2 h4 sm sq m2
  have e2 : m_walk d (fl up (mv (fl up x.1) e)) x.2 = .ok (wk d up (mv (fl up x.1) e) (fl up x.2)) := by
    have := walk_ok (d := d) sm sq m2 (by rw [hdm]; exact cov) (by omega)
    rw [fl_fl] at this
    exact this
  have hwl := wk_len d up (mv (fl up x.1) e) (fl up x.2)
  have e3 : (rCatL ([x.1] : List Cr) (wk d up (mv (fl up x.1) e) (fl up x.2)) : R Er _) = .ok (x.1 :: wk d up (mv (fl up x.1) e) (fl up x.2)) := (wp_cat (P := (· = x.1 :: wk d up (mv (fl up x.1) e) (fl up x.2))) (by simp; omega) rfl).eq
  have e4 : (rIx (x.1 :: wk d up (mv (fl up x.1) e) (fl up x.2)) (-(2 : Int)) : R Er Cr) = .ok (fl up (bk (fl up x.2) (ls (tb d up) (fl up x.2) (k + 1) (mv (fl up x.1) e)))) := by
    rw [rIx_m2 (by simp; omega)]
    congr 1
    have : (x.1 :: wk d up (mv (fl up x.1) e) (fl up x.2)).length - 2 = k + 1 := by simp; omega
    simp only [this, List.getElem_cons_succ]
    unfold wk
    simp only [List.getElem_map, List.getElem_range]
    rw [pen_ps m2 hdm]
  obtain ⟨b1, b2⟩ := bk_le l2 l3 (ls (tb d up) (fl up x.2) (k + 1) (mv (fl up x.1) e))
  have sb := sb_cvx b up _ _ _ sp sq b1 b2
  have e5 : m_letter d x.1 (fl up (bk (fl up x.2) (ls (tb d up) (fl up x.2) (k + 1) (mv (fl up x.1) e)))) = .ok (ltr up (fs (tb d up) (fl up x.1) (bk (fl up x.2) (ls (tb d up) (fl up x.2) (k + 1) (mv (fl up x.1) e))))) := by
    have hd : dst (fl up x.1) (bk (fl up x.2) (ls (tb d up) (fl up x.2) (k + 1) (mv (fl up x.1) e))) = k + 1 := dst_bk hn
    have := letter_ok cov sp sb b1 (by omega) (by omega)
    rw [fl_fl] at this
    exact this
  rw [e1]
  simp only [bo]
  rw [e2]
  simp only [bo]
  rw [e3]
  simp only [bo]
  rw [e4]
  simp only [bo]
  rw [e5]
  simp only [bo]
  rw [ltr_dec]
  have hg : good d up x e = (fs (tb d up) (fl up x.1) (bk (fl up x.2) (ls (tb d up) (fl up x.2) (k + 1) (mv (fl up x.1) e))) == e) := by
    unfold good
    rw [show dx up x - 1 = k + 1 by omega]
  rw [← hg]
  cases good d up x e
  · rfl
  · rw [if_pos rfl, if_pos rfl, (wp_app (P := (· = ltr up e)) (by omega) rfl).eq]
    rfl
theorem allp_len {b : Cr} (h1 : b.1 ≤ 8) (h2 : b.2 ≤ 8) : (allp b).length ≤ 6561 := by
  rw [← quad_all]
  exact Nat.le_trans (List.length_filter_le ..) (quad_len h1 h2)
theorem fill_wp {b : Cr} {bits : List Int} {P : Dc → Prop} (h1 : 0 ≤ b.1) (h2 : b.1 ≤ 8) (h3 : 0 ≤ b.2) (h4 : b.2 ≤ 8) (hb : bits ≠ []) (hv : ∀ v ∈ bits, 0 ≤ v ∧ v < 2) (h : ∀ d, Pln b d → P d) : wp (m_fill b [] bits) P := by
  have hbl := List.length_pos_iff.mpr hb
  have hl := allp_len h2 h4
  have hlen : (byS (allp b)).length ≤ 6561 := by rw [(byS_perm _).length_eq]; exact hl
  unfold m_fill
  rw [pairs_ok h1 h2 h3 h4]
  simp only [bo]
  rw [wp_bind]
  refine wp_forSn (fun i (s : Dc × Int) => FI b ((byS (allp b)).take i) s.1 ∧ s.1.length ≤ i) ⟨⟨fun _ _ _ hm => by simp at hm, fun _ _ _ hm => by simp at hm⟩, by simp⟩ (fun i r hr s ⟨s1, s2⟩ => ?_) (fun s ⟨s1, _⟩ => ?_)
  · rw [List.getElem?_map] at hr
    obtain ⟨x, hx, rfl⟩ := Option.map_eq_some_iff.mp hr
    obtain ⟨hi, hxi⟩ := List.getElem?_eq_some_iff.mp hx
    have hL : byS (allp b) = (byS (allp b)).take i ++ x :: (byS (allp b)).drop (i + 1) := by
      rw [← hxi, List.getElem_cons_drop, List.take_append_drop]
    obtain ⟨up, hp⟩ := allp_mem.mp (byS_mem.mp (List.mem_of_getElem? hx))
    have htk : (byS (allp b)).take (i + 1) = (byS (allp b)).take i ++ [x] := by rw [List.take_add_one, hx]; rfl
    have hst : (if (decide (x.2.2 < x.1.2)) then ((R.ok ("S" : PySem.Str)).bind fun (steep_9 : PySem.Str) => R.ok steep_9) else (R.ok ("N" : PySem.Str)) : R Er PySem.Str) = .ok (stL up) := by
      have := hp.st
      cases up
      · simp only [Bool.false_eq_true, if_false] at this
        rw [if_pos (by simpa using this)]; rfl
      · simp only [if_true] at this
        rw [if_neg (by simp; omega)]; rfl
    simp only
    rw [show (R.ok ("N" : PySem.Str) : R Er PySem.Str) = R.ok ("N" : PySem.Str) from rfl] at *
    simp only [bo] at hst ⊢
    rw [hst]
    simp only [bo]
    have o1 := option_ok h2 h4 s1 hL hp true [] (by simp)
    have hopt : (good s.1 up x true = true ∨ good s.1 up x false = true) := s1.some hL hp
    have o2 := option_ok h2 h4 s1 hL hp false (if good s.1 up x true then [] ++ [ltr up true] else []) (by split <;> simp)
    rw [wp_bind]
    refine ⟨(if good s.1 up x false then (if good s.1 up x true then [] ++ [ltr up true] else []) ++ [ltr up false] else (if good s.1 up x true then [] ++ [ltr up true] else [])), ?_, ?_⟩
    · unfold forS
      refine (congrArg (fun m : R Er (List PySem.Str) => m.bind _) o1).trans ?_
      rw [R.bind_ok]
      unfold forS
      refine (congrArg (fun m : R Er (List PySem.Str) => m.bind _) o2).trans ?_
      rw [R.bind_ok]
      rfl
    · have fin : ∀ (e : Bool) (k : Int), good s.1 up x e = true → wp ((rApp s.1 (x, ltr up e)).bind fun c => R.ok (ε := Er) ((dput s.1 c.1 c.2), k)) fun s => FI b ((byS (allp b)).take (i + 1)) s.1 ∧ s.1.length ≤ i + 1 := fun e k hg => by
        rw [wp_bind]
        refine wp_app (by omega) (wp_ok.mpr ⟨?_, ?_⟩)
        · rw [htk]
          exact s1.next hL hp hg
        · have := dput_len s.1 x (ltr up e)
          simp only
          omega
      show wp (if dhas ([] : Dc) (x.1, x.2) = true then _ else _) _
      rw [if_neg (show ¬ dhas ([] : Dc) (x.1, x.2) = true from fun z => by cases z)]
      have two : ∀ (v : Int), 0 ≤ v → v < 2 → good s.1 up x true = true → good s.1 up x false = true → ∃ e, (rIx [ltr up true, ltr up false] v : R Er PySem.Str) = .ok (ltr up e) ∧ good s.1 up x e = true := fun v v0 v1 g1 g2 => by
        rcases (show v = 0 ∨ v = 1 by omega) with q | q <;> subst q
        · exact ⟨true, rfl, g1⟩
        · exact ⟨false, rfl, g2⟩
      have one : ∀ e, good s.1 up x e = true → wp ((((rIx [ltr up e] (0 : Int))).bind fun v29 => (rApp s.1 ((x.1, x.2), v29))).bind fun (c28 : (((Int × Int) × (Int × Int)) × PySem.Str)) => R.ok (ε := Er) ((dput s.1 c28.1 c28.2), s.2)) fun s => FI b ((byS (allp b)).take (i + 1)) s.1 ∧ s.1.length ≤ i + 1 := fun e hg => by
        rw [show (rIx [ltr up e] (0 : Int) : R Er PySem.Str) = .ok (ltr up e) from rfl, R.bind_ok]
        exact fin e s.2 hg
      by_cases g1 : good s.1 up x true = true
      · by_cases g2 : good s.1 up x false = true
        · rw [if_pos g1, if_pos g2]
          refine wp_ite.mpr ⟨fun z => by simp at z, fun _ => ?_⟩
          simp only [wp_bind, wp_ok]
          refine wp_mod (by omega) ?_
          refine wp_ix (Int.emod_nonneg _ (by omega)) (Int.emod_lt_of_pos _ (by omega)) fun hi => ?_
          have hvv := hv _ (List.getElem_mem hi)
          generalize bits[(s.2 % (bits.length : Int)).toNat] = v at hvv
          obtain ⟨e, ee, ge⟩ := two v hvv.1 hvv.2 g1 g2
          refine ⟨_, ee, ?_⟩
          have := fin e (s.2 + 1) ge
          simp only [wp_bind, wp_ok] at this
          exact this
        · rw [if_pos g1, if_neg g2]
          refine wp_ite.mpr ⟨fun _ => ?_, fun z => by simp at z⟩
          exact one true g1
      · have g2 := hopt.resolve_left g1
        rw [if_neg g1, if_pos g2]
        refine wp_ite.mpr ⟨fun _ => ?_, fun z => by simp at z⟩
        exact one false g2
  · rw [wp_ok]
    refine h _ ⟨fun up x hx => s1.a up x hx ?_, fun up x hx => s1.f up x hx ?_⟩ <;>
    · rw [List.take_of_length_le (by rw [List.length_map]; exact Nat.le_refl _)]
      exact byS_mem.mpr (allp_mem.mpr ⟨up, hx⟩)
def S (c : List Nat) : PySem.Str := ⟨c.toArray⟩
def one (c : Nat) : PySem.Str := ⟨#[c]⟩
def Ok3 (c : Nat) : Prop := c = 69 ∨ c = 78 ∨ c = 83
theorem S_one (c : Nat) : one c = S [c] := rfl
theorem S_len (c : List Nat) : (S c).length = c.length := by unfold S Str.length; simp
theorem S_app (c c' : List Nat) : S c ++ S c' = S (c ++ c') := by
  show (⟨c.toArray ++ c'.toArray⟩ : PySem.Str) = _
  simp [S]
theorem S_cps (c : List Nat) : (S c).cps.toList = c := by simp [S]
theorem S_ok {c : List Nat} (h : ∀ x ∈ c, Ok3 x) : PySem.PyData.strOk (S c) = true := by
  unfold PySem.PyData.strOk S
  rw [← Array.all_toList, List.all_eq_true]
  intro x hx
  simp only at hx
  have := h x hx
  unfold Ok3 at this
  simp only [decide_eq_true_eq]
  omega
theorem addS_ok {c c' : List Nat} (h : ∀ x ∈ c, Ok3 x) (h' : ∀ x ∈ c', Ok3 x) (hl : c.length + c'.length ≤ 1000000) : (rAddS (S c) (S c') : R Er PySem.Str) = .ok (S (c ++ c')) := by
  unfold rAddS
  rw [S_app, if_pos ⟨by rw [S_len, S_len, sizeLine_eq]; omega, S_ok fun x hx => by rcases List.mem_append.mp hx with q | q; exact h x q; exact h' x q⟩]
theorem signs_ok {c : List Nat} (h : ∀ x ∈ c, Ok3 x) : (rSigns (S c) : R Er (List PySem.Str)) = .ok (c.map one) := by
  have e : Cp.signs (S c) = c.map one := by
    unfold Cp.signs
    rw [S_cps]; rfl
  unfold rSigns
  rw [e, if_pos]
  rw [List.all_eq_true]
  intro x hx
  obtain ⟨y, hy, rfl⟩ := List.mem_map.mp hx
  rw [S_one]
  exact S_ok fun z hz => by rw [List.mem_singleton] at hz; subst hz; exact h _ hy
theorem lenS_ok {cs : List Nat} (hl : cs.length ≤ 1000000) : (rLenS (S cs) : R Er Int) = .ok (cs.length : Int) := by
  unfold rLenS
  rw [S_len, if_pos (by rw [sizeLine_eq]; omega)]
def cch (up e : Bool) : Nat := if e then 69 else if up then 78 else 83
theorem cch_ok (up e : Bool) : Ok3 (cch up e) := by cases up <;> cases e <;> simp [cch, Ok3]
theorem one_cch (up e : Bool) : one (cch up e) = ltr up e := by cases up <;> cases e <;> rfl
def Vc (up : Bool) (cs : List Nat) : Prop := ∀ c ∈ cs, ∃ e, c = cch up e
theorem Vc.ok {up : Bool} {cs : List Nat} (h : Vc up cs) : ∀ c ∈ cs, Ok3 c := fun c hc => by obtain ⟨e, rfl⟩ := h c hc; exact cch_ok up e
def hs (up : Bool) : PySem.Str := if up then "rising" else "falling"
/-- a table made from a list -/
def dic (l : List (Pr × PySem.Str)) : Dc := l.foldl (fun d x => dput d x.1 x.2) []
theorem dic_snoc (l : List (Pr × PySem.Str)) (x : Pr × PySem.Str) : dic (l ++ [x]) = dput (dic l) x.1 x.2 := by
  unfold dic; rw [List.foldl_append]; rfl
theorem snoc_ind {α : Type} {P : List α → Prop} (h0 : P []) (h1 : ∀ l x, P l → P (l ++ [x])) : ∀ l, P l := fun l => by
  have : ∀ l : List α, P l.reverse := fun l => by
    induction l with
    | nil => exact h0
    | cons x l ih => rw [List.reverse_cons]; exact h1 _ _ ih
  have := this l.reverse
  rwa [List.reverse_reverse] at this
theorem dic_get : ∀ l : List (Pr × PySem.Str), (l.map (·.1)).Nodup → ∀ x ∈ l, dget (dic l) x.1 = some x.2 := by
  refine snoc_ind (fun _ _ h => by cases h) fun l z ih hn x hx => ?_
  rw [List.map_append, List.nodup_append] at hn
  rw [dic_snoc, dget_put]
  rcases List.mem_append.mp hx with q | q
  · have : x.1 ≠ z.1 := hn.2.2 x.1 (List.mem_map.mpr ⟨x, q, rfl⟩) z.1 (by simp)
    rw [if_neg this]
    exact ih hn.1 x q
  · rw [List.mem_singleton] at q
    subst q
    rw [if_pos rfl]
theorem dic_len : ∀ l : List (Pr × PySem.Str), (dic l).length ≤ l.length := by
  refine snoc_ind (by simp [dic]) fun l z ih => ?_
  rw [dic_snoc, List.length_append]
  have := dput_len (dic l) z.1 z.2
  simp only [List.length_singleton]
  omega
/-- the table that a text gives -/
def tab (b : Cr) (up : Bool) (cs : List Nat) : Dc := dic (List.zip (prs b up) (cs.map one))
theorem prs_nd (b : Cr) (up : Bool) : (prs b up).Nodup := lt4_nd (prs_pw b up)
theorem tab_get {b : Cr} {up : Bool} {cs : List Nat} (hv : Vc up cs) (hl : cs.length = (prs b up).length) {x : Pr} (hx : IsPr b up x) : ∃ e, dget (tab b up cs) x = some (ltr up e) := by
  obtain ⟨i, hi⟩ := List.getElem?_of_mem (prs_mem.mpr hx)
  have hi2 := (List.getElem?_eq_some_iff.mp hi).1
  have hz : (x, one (cs[i]'(by omega))) ∈ List.zip (prs b up) (cs.map one) := by
    refine List.mem_of_getElem? (i := i) ?_
    rw [List.getElem?_zip_eq_some]
    exact ⟨hi, by rw [List.getElem?_map, List.getElem?_eq_getElem (by omega)]; rfl⟩
  have hk : ((List.zip (prs b up) (cs.map one)).map (·.1)) = prs b up := by
    rw [List.map_fst_zip]
    rw [List.length_map]; omega
  have := dic_get _ (by rw [hk]; exact prs_nd b up) _ hz
  obtain ⟨e, he⟩ := hv _ (List.getElem_mem (show i < cs.length by omega))
  refine ⟨e, ?_⟩
  unfold tab
  rw [this, he, one_cch]
theorem prs_len {b : Cr} {up : Bool} (h1 : b.1 ≤ 8) (h2 : b.2 ≤ 8) : (prs b up).length ≤ 6561 := by
  rw [← quad_half]
  exact Nat.le_trans (List.length_filter_le ..) (quad_len h1 h2)
theorem corners_ok {b : Cr} (h1 : 0 ≤ b.1) (h2 : b.1 ≤ 8) (h3 : 0 ≤ b.2) (h4 : b.2 ≤ 8) : m_corners_of b = .ok (corners b) := by
  unfold m_corners_of
  rw [R.bind_ok, rRng_ok (by omega) (by omega) (by omega) (by omega), R.bind_ok]
  have e : lc2M (fun (x_4 : Int) => (R.ok true : R Er Bool)) (fun (x_4 : Int) => (R.ok (rng 0 (b.2 + 1)) : R Er _)) (fun (x_4 : Int) (y_5 : Int) => (R.ok true)) (fun (x_4 : Int) (y_5 : Int) => (R.ok (x_4, y_5))) (rng 0 (b.1 + 1)) = .ok (corners b) := by
    unfold corners
    generalize rng 0 (b.1 + 1) = L
    induction L with
    | nil => rfl
    | cons x L ih =>
      unfold lc2M
      rw [R.bind_ok, if_pos rfl, R.bind_ok]
      have e := lcM_pure (ε := Er) (mt := fun _ => .ok true) (f := fun y : Int => .ok (x, y)) (fun _ => true) (fun y => (x, y)) (l := rng 0 (b.2 + 1)) (fun _ _ => rfl) (fun _ _ _ => rfl)
      rw [List.filter_eq_self.mpr fun _ _ => rfl] at e
      rw [e, R.bind_ok, ih, R.bind_ok, List.flatMap_cons]
  unfold lc2R
  have r : ∀ x : Int, (rRng 0 (b.2 + 1) : R Er _) = .ok (rng 0 (b.2 + 1)) := fun _ => rRng_ok (by omega) (by omega) (by omega) (by omega)
  rw [show (fun (x_4 : Int) => (rRng 0 (b.2 + 1) : R Er _)) = fun _ => R.ok (rng 0 (b.2 + 1)) from funext r, e]
  simp only
  rw [if_pos]
  · rfl
  · rw [sizeLine_eq]
    unfold corners
    have := flatMap_len (l := rng 0 (b.1 + 1)) (f := fun x => (rng 0 (b.2 + 1)).map fun y => (x, y)) (k := 9) fun x _ => by rw [List.length_map]; exact rng_le (by omega)
    have := rng_le (lo := 0) (hi := b.1 + 1) (k := 9) (by omega)
    omega
theorem prs_col {b : Cr} (h1 : 0 ≤ b.1) (h2 : b.1 ≤ 8) (h3 : 0 ≤ b.2) (h4 : b.2 ≤ 8) (up : Bool) (f : Cr → Int → List Pr → R Er (List Pr))
    (hf : ∀ p x s, onb b p → f p x s = ((R.ok (if up then rng (p.2 + 1) (b.2 + 1) else rng 0 p.2)).bind fun v10 => forS (fun (y_6 : Int) (s7 : List Pr) => ((rApp s7 (p, (x, y_6)))).bind fun c9 => R.ok (s7 ++ [c9])) v10 s).bind fun s11 => R.ok s11) :
    forS (fun p s => ((rRng (p.1 + 1) (b.1 + 1)).bind fun v12 => forS (f p) v12 s).bind fun s13 => R.ok s13) (corners b) [] = .ok (prs b up) := by
  have hl := prs_len (b := b) (up := up) h2 h4
  rw [forS_col (N := 10000) (fun p : Cr => (rng (p.1 + 1) (b.1 + 1)).flatMap fun x => (if up then rng (p.2 + 1) (b.2 + 1) else rng 0 p.2).map fun y => (p, (x, y))) _ _ (fun p hp s hs => ?_) (by show _ + (prs b up).length ≤ _; simp only [List.length_nil]; omega)]
  · rfl
  · have hp := corners_mem.mp hp
    obtain ⟨a1, a2, a3, a4⟩ := id hp
    rw [rRng_ok (by omega) (by omega) (by omega) (by omega), R.bind_ok]
    rw [forS_col (N := 10000) (fun x => (if up then rng (p.2 + 1) (b.2 + 1) else rng 0 p.2).map fun y => (p, (x, y))) _ _ (fun x hx s hs => ?_) hs]
    · rfl
    · rw [hf p x s hp, R.bind_ok]
      have e : ∀ (L : List Int) (s : List Pr), s.length + L.length ≤ 10000 → forS (fun (y_6 : Int) (s7 : List Pr) => ((rApp s7 (p, (x, y_6)))).bind fun c9 => R.ok (ε := Er) (s7 ++ [c9])) L s = .ok (s ++ L.map fun y => (p, (x, y))) := fun L s hs => by
        rw [forS_col (N := 10000) (fun y => [(p, (x, y))]) _ _ (fun y _ s hs => ?_) (by
          have : (L.flatMap fun y => [(p, (x, y))]) = L.map fun y => (p, (x, y)) := by induction L with | nil => rfl | cons a L ih => rw [List.flatMap_cons, List.map_cons]; rw [ih (by simp at hs; omega)]; rfl
          rw [this, List.length_map]; exact hs)]
        · congr 2
          induction L with
          | nil => rfl
          | cons a L ih => rw [List.flatMap_cons, List.map_cons]; rw [ih (by simp at hs; omega)]; rfl
        · simp only [List.length_singleton] at hs
          rw [(wp_app (P := (· = (p, (x, y)))) (by omega) rfl).eq]; rfl
      rw [e _ _ (by rw [List.length_map] at hs; exact hs)]
      rfl
theorem pairs_of_ok {b : Cr} (h1 : 0 ≤ b.1) (h2 : b.1 ≤ 8) (h3 : 0 ≤ b.2) (h4 : b.2 ≤ 8) (up : Bool) : m_pairs_of b (hs up) = .ok (prs b up) := by
  unfold m_pairs_of
  cases up
  · rw [if_neg (show ¬ decide (hs false = ("rising" : PySem.Str)) = true from by decide +kernel)]
    have : m_falling_pairs b = .ok (prs b false) := by
      unfold m_falling_pairs
      rw [R.bind_ok, corners_ok h1 h2 h3 h4, R.bind_ok]
      rw [prs_col h1 h2 h3 h4 false _ (fun p x s hp => ?_)]
      · rfl
      · obtain ⟨a1, a2, a3, a4⟩ := hp
        rw [rRng_ok (by omega) (by omega) (by omega) (by omega)]; rfl
    rw [this]; rfl
  · rw [if_pos (show decide (hs true = ("rising" : PySem.Str)) = true from by decide +kernel)]
    have : m_rising_pairs b = .ok (prs b true) := by
      unfold m_rising_pairs
      rw [R.bind_ok, corners_ok h1 h2 h3 h4, R.bind_ok]
      rw [prs_col h1 h2 h3 h4 true _ (fun p x s hp => ?_)]
      · rfl
      · obtain ⟨a1, a2, a3, a4⟩ := hp
        rw [rRng_ok (by omega) (by omega) (by omega) (by omega)]; rfl
    rw [this]; rfl
theorem keysM_pure {α κ : Type} {f : α → R Er κ} {g : α → κ} : ∀ {l : List α}, (∀ x ∈ l, f x = .ok (g x)) → keysM f l = some (l.map g)
  | [], _ => rfl
  | x :: l, h => by
    unfold keysM
    rw [h x (List.mem_cons_self ..), keysM_pure fun y hy => h y (List.mem_cons_of_mem _ hy)]
    rfl
theorem by_steps_ok {b : Cr} (h1 : 0 ≤ b.1) (h2 : b.1 ≤ 8) (h3 : 0 ≤ b.2) (h4 : b.2 ≤ 8) (up : Bool) : m_pairs_by_steps b (hs up) = .ok (byS (prs b up)) := by
  unfold m_pairs_by_steps
  rw [pairs_of_ok h1 h2 h3 h4, R.bind_ok]
  have e : (rSortK false pyK (fun (pair_1 : Pr) => ((m_steps_between pair_1.1 pair_1.2)).bind fun v2 => R.ok (v2, pair_1)) (prs b up) : R Er _) = .ok (byS (prs b up)) := by
    unfold rSortK
    have ek : keysM (fun (pair_1 : Pr) => ((m_steps_between pair_1.1 pair_1.2)).bind fun v2 => R.ok (ε := Er) (v2, pair_1)) (prs b up) = some ((prs b up).map row) := keysM_pure fun x _ => rfl
    rw [ek]
    simp only
    rw [sortK_row]
  rw [show (rSortK false (fun (a : (Int × ((Int × Int) × (Int × Int)))) => (PyData.tuple [(PyData.int a.1), (PyData.tuple [(PyData.tuple [(PyData.int a.2.1.1), (PyData.int a.2.1.2)]), (PyData.tuple [(PyData.int a.2.2.1), (PyData.int a.2.2.2)])])])) (fun (pair_1 : ((Int × Int) × (Int × Int))) => ((m_steps_between pair_1.1 pair_1.2)).bind fun v2 => R.ok (v2, pair_1)) (prs b up) : R Er _) = .ok (byS (prs b up)) from e]
  rfl
theorem letters_ok {b : Cr} (h1 : 0 ≤ b.1) (h2 : b.1 ≤ 8) (h3 : 0 ≤ b.2) (h4 : b.2 ≤ 8) {up : Bool} {cs : List Nat} (hv : Vc up cs) : m_letters_by_pair b (hs up) (S cs) = .ok (tab b up cs) := by
  unfold m_letters_by_pair
  rw [pairs_of_ok h1 h2 h3 h4, R.bind_ok]
  unfold rZipS
  rw [signs_ok hv.ok, R.bind_ok, R.bind_ok]
  have hl := prs_len (b := b) (up := up) h2 h4
  rw [dcR_ok (fun _ => true) (fun x : Pr × PySem.Str => x.1) (fun x => x.2) (by rw [List.length_zip]; omega) (fun _ _ => rfl) (fun _ _ _ => rfl) (fun _ _ _ => rfl)]
  rw [List.filter_eq_self.mpr fun _ _ => rfl]
  rfl
/-- pairs of fewer steps come first -/
theorem beforeH {b : Cr} {done todo : List Pr} {x y : Pr} {up : Bool} (hL : byS (prs b up) = done ++ x :: todo) (hx : IsPr b up x) (hy : IsPr b up y) (h : dx up y < dx up x) : y ∈ done := by
  have hm : y ∈ byS (prs b up) := byS_mem.mpr (prs_mem.mpr hy)
  have hs := hx.stp
  have hs' := hy.stp
  rw [hL] at hm
  rcases List.mem_append.mp hm with q | q
  · exact q
  · exfalso
    rcases List.mem_cons.mp q with rfl | q
    · omega
    · have pw := byS_pw (prs b up)
      rw [hL] at pw
      have := (List.pairwise_cons.mp (List.pairwise_append.mp pw).2.1).1 y q
      exact this (.inl (by show CpLaw.stp y < CpLaw.stp x; omega))
theorem sbp {b : Cr} {up : Bool} {x : Pr} (h : IsPr b up x) : Sb b up (fl up x.1) := by unfold Sb; rw [fl_fl]; exact h.p
theorem sbq {b : Cr} {up : Bool} {x : Pr} (h : IsPr b up x) : Sb b up (fl up x.2) := by unfold Sb; rw [fl_fl]; exact h.q
theorem first_eq (d : Dc) (p q : Cr) : m_first_letter d p q = m_letter d p q := rfl
theorem moved_own_eq (p : Cr) (l : PySem.Str) : m_moved_own p l = m_moved p l := rfl
theorem before_ok (up e : Bool) (q : Cr) : m_before (fl up q) (ltr up e) = .ok (fl up (bk q e)) := by
  cases up <;> cases e
  · refine (show m_before (fl false q) "S" = .ok ((fl false q).1, (fl false q).2 + 1) from rfl).trans ?_
    rw [bk_f, fl_f, fl_f]
    simp only
    rw [show -q.2 + 1 = -(q.2 - 1) by omega]
  · rfl
  · rfl
  · rfl
/-- the whole table -/
def Full (b : Cr) (up : Bool) (d : Dc) : Prop := ∀ x, IsPr b up x → ∃ e, dget d x = some (ltr up e)
theorem Full.cov {b : Cr} {up : Bool} {d : Dc} (h : Full b up d) (n : Nat) : Cov d b up n := fun x hx _ => h x hx
theorem rGet_ok {d : Dc} {x : Pr} {l : PySem.Str} (h : dget d x = some l) : (rGet d x : R Er PySem.Str) = .ok l := by unfold rGet; rw [h]; rfl
theorem get_fs {b : Cr} {up : Bool} {d : Dc} (h : Full b up d) {x : Pr} (hx : IsPr b up x) : dget d x = some (ltr up (fs (tb d up) (fl up x.1) (fl up x.2))) := by
  obtain ⟨e, he⟩ := h x hx
  obtain ⟨_, l2, l3⟩ := hx.le
  rw [he]
  unfold fs tb
  rw [if_neg (by omega), if_neg (by omega), fl_fl, fl_fl, he, ltr_e]
/-- the dict of the last steps -/
def Lst (b : Cr) (up : Bool) (t : Tb) (done : List Pr) (ld : Dc) : Prop := ∀ x, IsPr b up x → x ∈ done → dget ld x = some (ltr up (ls t (fl up x.2) (dx up x) (fl up x.1)))
theorem last_letter {b : Cr} {up : Bool} {t : Tb} {ld : Dc} {p q : Cr} (hp : Sb b up p) (hq : Sb b up q) (h : le2 p q) (h0 : 0 < dst p q) (hl : p.1 < q.1 → p.2 < q.2 → dget ld (fl up p, fl up q) = some (ltr up (ls t q (dst p q) p))) :
    m_letter ld (fl up p) (fl up q) = .ok (ltr up (ls t q (dst p q) p)) := by
  have e := h.dst
  obtain ⟨h1, h2⟩ := id h
  unfold m_letter
  have e2 : (fl up p).2 = (fl up q).2 ↔ p.2 = q.2 := by
    cases up
    · simp only [fl_f]; omega
    · rfl
  by_cases c1 : p.2 = q.2
  · rw [if_pos (by simpa using e2.mpr c1), ls_row c1]; rfl
  · rw [if_neg (by simpa using fun z => c1 (e2.mp z))]
    by_cases c2 : p.1 = q.1
    · rw [if_pos (by simpa [fl_1] using c2), ls_col c2 (by omega) h0]
      cases up
      · rw [if_neg (show ¬ decide ((fl false p).2 < (fl false q).2) = true from by rw [decide_eq_true_iff]; show ¬ (-p.2 < -q.2); omega)]; rfl
      · rw [if_pos (show decide ((fl true p).2 < (fl true q).2) = true from by rw [decide_eq_true_iff]; show p.2 < q.2; omega)]; rfl
    · rw [if_neg (by simpa [fl_1] using c2), rGet_ok (hl (by omega) (by omega))]; rfl
theorem lasts_ok {b : Cr} (h1 : 0 ≤ b.1) (h2 : b.1 ≤ 8) (h3 : 0 ≤ b.2) (h4 : b.2 ≤ 8) {up : Bool} {d : Dc} (hd : Full b up d) : ∃ ld, m_last_letters b (hs up) d = .ok ld ∧ Lst b up (tb d up) (byS (prs b up)) ld := by
  have hl := prs_len (b := b) (up := up) h2 h4
  have hlen : (byS (prs b up)).length ≤ 6561 := by rw [(byS_perm _).length_eq]; exact hl
  suffices h : wp (m_last_letters b (hs up) d) fun ld => Lst b up (tb d up) (byS (prs b up)) ld from h
  unfold m_last_letters
  rw [by_steps_ok h1 h2 h3 h4]
  simp only [bo]
  rw [wp_bind]
  refine wp_forSn (fun i (s : Dc) => Lst b up (tb d up) ((byS (prs b up)).take i) s ∧ s.length ≤ i) ⟨fun _ _ hm => by simp at hm, by simp⟩ (fun i x hx s ⟨s1, s2⟩ => ?_) (fun s ⟨s1, _⟩ => ?_)
  · obtain ⟨hi, hxi⟩ := List.getElem?_eq_some_iff.mp hx
    have hL : byS (prs b up) = (byS (prs b up)).take i ++ x :: (byS (prs b up)).drop (i + 1) := by
      rw [← hxi, List.getElem_cons_drop, List.take_append_drop]
    have hp := prs_mem.mp (byS_mem.mp (List.mem_of_getElem? hx))
    have htk : (byS (prs b up)).take (i + 1) = (byS (prs b up)).take i ++ [x] := by rw [List.take_add_one, hx]; rfl
    obtain ⟨l1, l2, l3⟩ := hp.le
    have hd2 := hp.two
    obtain ⟨k, hk⟩ : ∃ k, dx up x = k + 2 := ⟨dx up x - 2, by omega⟩
    obtain ⟨a1, a2⟩ := nx_le (t := tb d up) l1 (by unfold dx at hk; omega)
    have sn := sb_cvx b up _ _ _ (sbp hp) (sbq hp) a2 a1
    have dn : dst (nx (tb d up) (fl up x.1) (fl up x.2)) (fl up x.2) = k + 1 := dst_nx hk
    rw [rGet_ok (get_fs hd hp)]
    simp only [bo]
    rw [moved_own_eq]
    have em := moved_ok up (fs (tb d up) (fl up x.1) (fl up x.2)) (fl up x.1)
    rw [fl_fl] at em
    rw [em]
    simp only [bo]
    rw [first_eq]
    have el := last_letter (t := tb d up) (ld := s) sn (sbq hp) a1 (by omega) fun y1 y2 => by
      have hy := IsPr.mk' sn (sbq hp) y1 y2
      have hb := beforeH hL hp hy (by unfold dx; simp only [fl_fl]; rw [dn]; unfold dx at hk; omega)
      have := s1 _ hy hb
      unfold dx at this
      simp only [fl_fl] at this
      rw [fl_fl]
      exact this
    rw [fl_fl] at el
    rw [show (fl up (mv (fl up x.1) (fs (tb d up) (fl up x.1) (fl up x.2)))) = fl up (nx (tb d up) (fl up x.1) (fl up x.2)) from rfl, el]
    simp only [bo]
    rw [wp_bind]
    refine wp_app (by omega) (wp_ok.mpr ⟨fun y hy hm => ?_, ?_⟩)
    · rw [dget_put]
      by_cases c : y = x
      · subst c
        rw [if_pos rfl, hk, dn]
        rfl
      · rw [if_neg c]
        rw [htk] at hm
        rcases List.mem_append.mp hm with q | q
        · exact s1 y hy q
        · exact absurd (List.mem_singleton.mp q) c
    · have := dput_len s (x.1, x.2) (ltr up (ls (tb d up) (fl up x.2) (dst (nx (tb d up) (fl up x.1) (fl up x.2)) (fl up x.2)) (nx (tb d up) (fl up x.1) (fl up x.2))))
      simp only
      omega
  · rw [wp_ok]
    rw [List.take_of_length_le (Nat.le_refl _)] at s1
    exact s1
def fineB (d : Dc) (up : Bool) (x : Pr) : Bool := fs (tb d up) (fl up x.1) (pen (tb d up) (fl up x.1) (fl up x.2)) == fs (tb d up) (fl up x.1) (fl up x.2)
theorem fineB_iff {d : Dc} {up : Bool} {x : Pr} : fineB d up x = true ↔ Fine (tb d up) (fl up x.1) (fl up x.2) := by unfold fineB Fine; rw [beq_iff_eq]
theorem forX_find {α β : Type} {f : α → Unit → R Er (Unit ⊕ β)} (bad : α → Bool) (g : α → β) : ∀ L : List α, (∀ x ∈ L, f x () = .ok (if bad x then .inr (g x) else .inl ())) → forX f L () = .ok (match L.find? bad with | some x => .inr (g x) | none => .inl ())
  | [], _ => rfl
  | x :: L, h => by
    unfold forX
    rw [h x List.mem_cons_self, R.bind_ok, List.find?_cons]
    cases bad x
    · simp only [Bool.false_eq_true, if_false]
      exact forX_find bad g L fun y hy => h y (List.mem_cons_of_mem _ hy)
    · rfl
/-- what the program tells -/
theorem broken_ok {b : Cr} (h1 : 0 ≤ b.1) (h2 : b.1 ≤ 8) (h3 : 0 ≤ b.2) (h4 : b.2 ≤ 8) {up : Bool} {cs : List Nat} (hv : Vc up cs) (hl : cs.length = (prs b up).length) :
    m_find_broken_pair b (hs up) (S cs) = .ok ((byS (prs b up)).find? fun x => !fineB (tab b up cs) up x) := by
  have hd : Full b up (tab b up cs) := fun x hx => tab_get hv hl hx
  obtain ⟨ld, e1, e2⟩ := lasts_ok h1 h2 h3 h4 hd
  unfold m_find_broken_pair
  rw [letters_ok h1 h2 h3 h4 hv, R.bind_ok, e1, R.bind_ok, by_steps_ok h1 h2 h3 h4, R.bind_ok]
  rw [forX_find (fun x => !fineB (tab b up cs) up x) some]
  · unfold R.seqX
    rw [R.bind_ok]
    cases (byS (prs b up)).find? fun x => !fineB (tab b up cs) up x <;> rfl
  · intro x hx
    have hp := prs_mem.mp (byS_mem.mp hx)
    obtain ⟨l1, l2, l3⟩ := hp.le
    have hd2 := hp.two
    have h0 : 0 < dst (fl up x.1) (fl up x.2) := by unfold dx at hd2; omega
    obtain ⟨p1, p2, p3⟩ := pen_le (t := tb (tab b up cs) up) l1 h0
    rw [rGet_ok (e2 x hp hx)]
    simp only [bo]
    have eb := before_ok up (ls (tb (tab b up cs) up) (fl up x.2) (dx up x) (fl up x.1)) (fl up x.2)
    rw [fl_fl] at eb
    rw [eb]
    simp only [bo]
    rw [first_eq]
    have el := letter_ok (hd.cov (dst (fl up x.1) (fl up x.2))) (sbp hp) (sb_cvx b up _ _ _ (sbp hp) (sbq hp) p1 p2) p1 (by unfold dx at hd2; omega) (by omega)
    rw [fl_fl] at el
    rw [show fl up (bk (fl up x.2) (ls (tb (tab b up cs) up) (fl up x.2) (dx up x) (fl up x.1))) = fl up (pen (tb (tab b up cs) up) (fl up x.1) (fl up x.2)) from rfl, el]
    simp only [bo]
    rw [rGet_ok (get_fs hd hp)]
    simp only [bo]
    rw [ltr_dec]
    show (if (!fineB (tab b up cs) up x) = true then _ else _) = _
    cases fineB (tab b up cs) up x <;> rfl
theorem forX_any {α β : Type} {f : α → Unit → R Er (Unit ⊕ β)} (bad : α → Bool) (c : β) : ∀ L : List α, (∀ x ∈ L, f x () = .ok (if bad x then .inr c else .inl ())) → forX f L () = .ok (if L.any bad then .inr c else .inl ())
  | [], _ => rfl
  | x :: L, h => by
    unfold forX
    rw [h x List.mem_cons_self, R.bind_ok, List.any_cons]
    cases bad x
    · simp only [Bool.false_eq_true, if_false, Bool.false_or]
      exact forX_any bad c L fun y hy => h y (List.mem_cons_of_mem _ hy)
    · rfl
theorem wk_get {d : Dc} {up : Bool} {p q : Cr} {i : Nat} (h : i < (wk d up p q).length) : (wk d up p q)[i] = fl up (ps (tb d up) q i p) := by
  have e : (wk d up p q)[i]? = some (fl up (ps (tb d up) q i p)) := by
    rw [wk_len] at h
    unfold wk
    rw [List.getElem?_map, List.getElem?_range h]; rfl
  rw [List.getElem?_eq_getElem h] at e
  exact Option.some.inj e
theorem walk_at {b : Cr} (h2 : b.1 ≤ 8) (h4 : b.2 ≤ 8) {up : Bool} {d : Dc} (hd : Full b up d) {p q : Cr} (hp : Sb b up p) (hq : Sb b up q) (h : le2 p q) : m_walk d (fl up p) (fl up q) = .ok (wk d up p q) :=
  walk_ok hp hq h (hd.cov _) (by have := sb_dst h2 h4 hp hq h; omega)
def ce (d : Dc) (up : Bool) (x : Pr) : Nat := cch up (decide (dget d x = some ("E" : PySem.Str)))
def cds (b : Cr) (d : Dc) (up : Bool) : List Nat := (prs b up).map (ce d up)
theorem cds_v (b : Cr) (d : Dc) (up : Bool) : Vc up (cds b d up) := fun c hc => by
  obtain ⟨x, _, rfl⟩ := List.mem_map.mp hc
  exact ⟨_, rfl⟩
theorem ce_get {b : Cr} {d : Dc} (h : Pln b d) {up : Bool} {x : Pr} (hx : IsPr b up x) : dget d x = some (one (ce d up x)) := by
  obtain ⟨e, he⟩ := h.a up x hx
  unfold ce
  rw [he, ltr_e, one_cch]
theorem texts_ok {b : Cr} (h1 : 0 ≤ b.1) (h2 : b.1 ≤ 8) (h3 : 0 ≤ b.2) (h4 : b.2 ≤ 8) {d : Dc} (hd : Pln b d) : m_texts b d = .ok (S (cds b d true), S (cds b d false)) := by
  have hl := quad_len h2 h4
  let o : Bool → Pr → List Nat := fun up x => if (if up then decide (x.1.2 < x.2.2) else decide (x.2.2 < x.1.2)) then [ce d up x] else []
  have ho : ∀ up x c, c ∈ o up x → Ok3 c := fun up x c hc => by
    show Ok3 c
    have : c ∈ (if (if up then decide (x.1.2 < x.2.2) else decide (x.2.2 < x.1.2)) then [ce d up x] else []) := hc
    by_cases q : (if up then decide (x.1.2 < x.2.2) else decide (x.2.2 < x.1.2)) = true
    · rw [if_pos q, List.mem_singleton] at this; subst this; exact cch_ok _ _
    · rw [if_neg q] at this; cases this
  have hout : ∀ up, (quad b).flatMap (o up) = cds b d up := fun up => by
    rw [show o up = fun x => if (if up then decide (x.1.2 < x.2.2) else decide (x.2.2 < x.1.2)) then [ce d up x] else [] from rfl, flatMap_if, quad_half]; rfl
  have hlen : ∀ up, (cds b d up).length ≤ 6561 := fun up => by
    unfold cds; rw [List.length_map]; exact prs_len h2 h4
  -- only texts of good letters are met: they are kept beside
  let mk : List Nat → List Nat → PySem.Str × PySem.Str := fun c1 c2 => (S (c1.filter fun c => decide (c = 69 ∨ c = 78 ∨ c = 83)), S (c2.filter fun c => decide (c = 69 ∨ c = 78 ∨ c = 83)))
  have fo : ∀ (c : List Nat), ∀ x ∈ c.filter fun c => decide (c = 69 ∨ c = 78 ∨ c = 83), Ok3 x := fun c x hx => by
    have := (List.mem_filter.mp hx).2
    exact (of_decide_eq_true this : x = 69 ∨ x = 78 ∨ x = 83)
  have fs : ∀ (c : List Nat), (∀ x ∈ c, Ok3 x) → (c.filter fun c => decide (c = 69 ∨ c = 78 ∨ c = 83)) = c := fun c hc => List.filter_eq_self.mpr fun x hx => decide_eq_true (show x = 69 ∨ x = 78 ∨ x = 83 from hc x hx)
  have e : ∀ (f : Int → PySem.Str × PySem.Str → R Er (PySem.Str × PySem.Str)), (∀ x ∈ rng 0 (b.1 + 1), ∀ c1 c2 : List Nat, c1.length + ((rng 0 (b.2 + 1)).flatMap fun y => (rng (x + 1) (b.1 + 1)).flatMap fun u => (rng 0 (b.2 + 1)).flatMap fun v => o true ((x, y), (u, v))).length ≤ 10000 → c2.length + ((rng 0 (b.2 + 1)).flatMap fun y => (rng (x + 1) (b.1 + 1)).flatMap fun u => (rng 0 (b.2 + 1)).flatMap fun v => o false ((x, y), (u, v))).length ≤ 10000 →
      f x (mk c1 c2) = .ok (mk (c1 ++ (rng 0 (b.2 + 1)).flatMap fun y => (rng (x + 1) (b.1 + 1)).flatMap fun u => (rng 0 (b.2 + 1)).flatMap fun v => o true ((x, y), (u, v))) (c2 ++ (rng 0 (b.2 + 1)).flatMap fun y => (rng (x + 1) (b.1 + 1)).flatMap fun u => (rng 0 (b.2 + 1)).flatMap fun v => o false ((x, y), (u, v))))) →
      forS f (rng 0 (b.1 + 1)) (S [], S []) = .ok (S (cds b d true), S (cds b d false)) := fun f hf => by
    have := forS_col2 mk (N := 10000) (fun x => (rng 0 (b.2 + 1)).flatMap fun y => (rng (x + 1) (b.1 + 1)).flatMap fun u => (rng 0 (b.2 + 1)).flatMap fun v => o true ((x, y), (u, v))) (fun x => (rng 0 (b.2 + 1)).flatMap fun y => (rng (x + 1) (b.1 + 1)).flatMap fun u => (rng 0 (b.2 + 1)).flatMap fun v => o false ((x, y), (u, v))) _ [] [] hf (by rw [← quad_flat, hout]; have := hlen true; simp only [List.length_nil]; omega) (by rw [← quad_flat, hout]; have := hlen false; simp only [List.length_nil]; omega)
    rw [← quad_flat, ← quad_flat, hout, hout] at this
    refine this.trans ?_
    show R.ok (S _, S _) = _
    rw [List.nil_append, List.nil_append, fs _ (cds_v b d true).ok, fs _ (cds_v b d false).ok]
  unfold m_texts
  rw [R.bind_ok, R.bind_ok, rRng_ok (by omega) (by omega) (by omega) (by omega), R.bind_ok]
  rw [show (("" : PySem.Str), ("" : PySem.Str)) = (S [], S []) from rfl, e _ fun x hx c1 c2 n1 n2 => ?_]
  · rfl
  · have hx := rng_mem.mp hx
    rw [rRng_ok (by omega) (by omega) (by omega) (by omega), R.bind_ok]
    rw [forS_col2 mk (N := 10000) (fun y => (rng (x + 1) (b.1 + 1)).flatMap fun u => (rng 0 (b.2 + 1)).flatMap fun v => o true ((x, y), (u, v))) (fun y => (rng (x + 1) (b.1 + 1)).flatMap fun u => (rng 0 (b.2 + 1)).flatMap fun v => o false ((x, y), (u, v))) _ _ _ (fun y hy c1 c2 n1 n2 => ?_) n1 n2]
    · rfl
    · have hy := rng_mem.mp hy
      rw [rRng_ok (by omega) (by omega) (by omega) (by omega), R.bind_ok]
      rw [forS_col2 mk (N := 10000) (fun u => (rng 0 (b.2 + 1)).flatMap fun v => o true ((x, y), (u, v))) (fun u => (rng 0 (b.2 + 1)).flatMap fun v => o false ((x, y), (u, v))) _ _ _ (fun u hu c1 c2 n1 n2 => ?_) n1 n2]
      · rfl
      · have hu := rng_mem.mp hu
        rw [R.bind_ok]
        rw [forS_col2 mk (N := 10000) (fun v => o true ((x, y), (u, v))) (fun v => o false ((x, y), (u, v))) _ _ _ (fun v hv c1 c2 n1 n2 => ?_) n1 n2]
        · rfl
        · have hv := rng_mem.mp hv
          have lf : ∀ (c : List Nat), (c.filter fun c => decide (c = 69 ∨ c = 78 ∨ c = 83)).length ≤ c.length := fun c => List.length_filter_le ..
          have l1 := lf c1
          have l2 := lf c2
          have ob : onb b (x, y) := ⟨by simp only; omega, by simp only; omega, by simp only; omega, by simp only; omega⟩
          have ob2 : onb b (u, v) := ⟨by simp only; omega, by simp only; omega, by simp only; omega, by simp only; omega⟩
          by_cases c : y < v
          · have e1 : o true ((x, y), (u, v)) = [ce d true ((x, y), (u, v))] := if_pos (by simpa using c)
            have e2 : o false ((x, y), (u, v)) = [] := if_neg (by simp; omega)
            have hx : IsPr b true ((x, y), (u, v)) := ⟨ob, ob2, by simp only; omega, by simpa using c⟩
            rw [e1] at n1
            simp only [List.length_singleton] at n1
            rw [if_pos (by simpa using c), rGet_ok (ce_get hd hx), R.bind_ok, e1, e2, List.append_nil]
            show (((rAddS (S (c1.filter _)) (S [ce d true ((x, y), (u, v))])).bind fun s => R.ok s).bind fun s11 => if decide (v < y) = true then _ else R.ok (s11, S (c2.filter _))) = _
            rw [addS_ok (fo c1) (fun z hz => by rw [List.mem_singleton] at hz; subst hz; exact cch_ok _ _) (by simp only [List.length_singleton]; omega), R.bind_ok, R.bind_ok, if_neg (by simp; omega)]
            show _ = R.ok (S _, S _)
            rw [List.filter_append, fs [ce d true ((x, y), (u, v))] (fun z hz => by rw [List.mem_singleton] at hz; subst hz; exact cch_ok _ _)]
          · have e1 : o true ((x, y), (u, v)) = [] := if_neg (by simpa using c)
            rw [if_neg (by simpa using c), R.bind_ok, e1, List.append_nil]
            by_cases c2' : v < y
            · have e2 : o false ((x, y), (u, v)) = [ce d false ((x, y), (u, v))] := if_pos (by simpa using c2')
              have hx : IsPr b false ((x, y), (u, v)) := ⟨ob, ob2, by simp only; omega, by simpa using c2'⟩
              rw [e2] at n2
              simp only [List.length_singleton] at n2
              rw [if_pos (by simpa using c2'), rGet_ok (ce_get hd hx), R.bind_ok, e2]
              show ((rAddS (S (c2.filter _)) (S [ce d false ((x, y), (u, v))])).bind fun s => R.ok (S (c1.filter _), s)) = _
              rw [addS_ok (fo c2) (fun z hz => by rw [List.mem_singleton] at hz; subst hz; exact cch_ok _ _) (by simp only [List.length_singleton]; omega), R.bind_ok]
              show _ = R.ok (S _, S _)
              rw [List.filter_append, fs [ce d false ((x, y), (u, v))] (fun z hz => by rw [List.mem_singleton] at hz; subst hz; exact cch_ok _ _)]
            · have e2 : o false ((x, y), (u, v)) = [] := if_neg (by simpa using c2')
              rw [if_neg (by simpa using c2'), e2, List.append_nil]
theorem bits_wp {ns : List Int} {k : Int} {P : List Int → Prop} (h0 : 0 ≤ k) (h : ∀ d : List Int, d ≠ [] → (∀ v ∈ d, 0 ≤ v ∧ v < 2) → P d) : wp (m_bits ns k) P := by
  unfold m_bits
  simp only [wp_bind, wp_ok]
  refine cell_wp h0 fun c1 => wp_rep (by omega) (by simp) ?_
  rw [show (60 : Int).toNat = 60 from rfl, rep1]
  have two : ∀ d : List Int, d.length = (List.replicate 60 (2 : Int)).length → (∀ (i : Nat) (x y : Int), d[i]? = some x → (List.replicate 60 (2 : Int))[i]? = some y → 0 ≤ x ∧ x < y) → d.length = 60 ∧ ∀ v ∈ d, 0 ≤ v ∧ v < 2 := fun d hl hd => by
    rw [List.length_replicate] at hl
    refine ⟨hl, fun v hv => ?_⟩
    obtain ⟨i, hi⟩ := List.getElem?_of_mem hv
    exact hd i v 2 hi (by rw [List.getElem?_replicate, if_pos (by have := (List.getElem?_eq_some_iff.mp hi).1; omega)])
  refine draws_wp (by simp) (by simp) fun d hl hd => ?_
  obtain ⟨a1, a2⟩ := two d hl hd
  refine cell_wp (by omega) fun c2 => wp_rep (by omega) (by simp) ?_
  rw [show (60 : Int).toNat = 60 from rfl, rep1]
  refine draws_wp (by simp) (by simp) fun d' hl' hd' => ?_
  obtain ⟨b1, b2⟩ := two d' hl' hd'
  refine wp_cat (by omega) (h _ ?_ fun v hv => ?_)
  · intro z
    rw [List.append_eq_nil_iff] at z
    rw [z.1] at a1
    simp at a1
  · rcases List.mem_append.mp hv with q | q
    · exact a2 v q
    · exact b2 v q
theorem steep_ok (up : Bool) : m_steep_letter (hs up) = .ok (stL up) := by cases up <;> rfl
theorem form_ok {b : Cr} (h1 : 0 ≤ b.1) (h2 : b.1 ≤ 8) (h3 : 0 ≤ b.2) (h4 : b.2 ≤ 8) {up : Bool} {cs : List Nat} (hv : Vc up cs) (hl : cs.length = (prs b up).length) : m_has_table_form b (hs up) (S cs) = .ok true := by
  have hn := prs_len (b := b) (up := up) h2 h4
  unfold m_has_table_form
  rw [lenS_ok (by omega), pairs_of_ok h1 h2 h3 h4]
  simp only [bo]
  rw [if_neg (by simp [hl]), signs_ok hv.ok]
  simp only [bo]
  rw [forX_any (fun _ => false) false]
  · unfold R.seqX
    rw [List.any_eq_false.mpr (by simp)]
    rfl
  · intro s hs
    obtain ⟨c, hc, rfl⟩ := List.mem_map.mp hs
    obtain ⟨e, rfl⟩ := hv c hc
    rw [steep_ok]
    simp only [bo]
    rw [one_cch, show memB (ltr up e) ([("E" : PySem.Str), stL up] : List PySem.Str) = true by cases up <;> cases e <;> decide +kernel]
    rfl
theorem cds_len (b : Cr) (d : Dc) (up : Bool) : (cds b d up).length = (prs b up).length := by unfold cds; rw [List.length_map]
theorem zip_self {α β : Type} (f : α → β) : ∀ l : List α, List.zip l (l.map f) = l.map fun x => (x, f x)
  | [] => rfl
  | x :: l => by rw [List.map_cons, List.zip_cons_cons, zip_self f l, List.map_cons]
theorem tab_cds {b : Cr} {d : Dc} (h : Pln b d) {up : Bool} {x : Pr} (hx : IsPr b up x) : dget (tab b up (cds b d up)) x = dget d x := by
  unfold tab cds
  rw [List.map_map, zip_self]
  have := dic_get ((prs b up).map fun x => (x, (one ∘ ce d up) x)) (by rw [List.map_map]; exact (List.map_id (prs b up)).symm ▸ prs_nd b up) (x, one (ce d up x)) (List.mem_map.mpr ⟨x, prs_mem.mpr hx, rfl⟩)
  exact this.trans (ce_get h hx).symm
/-- two tables alike at the pairs of a board -/
def Alike (b : Cr) (d d' : Dc) : Prop := ∀ up x, IsPr b up x → dget d x = dget d' x
theorem Alike.agr {b : Cr} {d d' : Dc} (h : Alike b d d') (up : Bool) (n : Nat) : Agr (tb d up) (tb d' up) (Sb b up) n := fun p q hp hq h1 h2 _ => by
  unfold tb
  rw [h up _ (IsPr.mk' hp hq h1 h2)]
theorem Alike.pln {b : Cr} {d d' : Dc} (h : Alike b d d') (p : Pln b d) : Pln b d' := ⟨fun up x hx => by
  rw [← h up x hx]; exact p.a up x hx, fun up x hx => by
  obtain ⟨l1, l2, l3⟩ := hx.le
  have := hx.two
  exact Fine.congr (sb_cvx b up) (h.agr up _) (by unfold tb; simp only [fl_fl]; rw [h up x hx]) (sbp hx) (sbq hx) l1 this (p.f up x hx)⟩
theorem not_broken {b : Cr} (h1 : 0 ≤ b.1) (h2 : b.1 ≤ 8) (h3 : 0 ≤ b.2) (h4 : b.2 ≤ 8) {d : Dc} (hd : Pln b d) (up : Bool) : m_find_broken_pair b (hs up) (S (cds b d up)) = .ok none := by
  rw [broken_ok h1 h2 h3 h4 (cds_v b d up) (cds_len b d up)]
  congr 1
  rw [List.find?_eq_none]
  intro x hx
  have hp := prs_mem.mp (byS_mem.mp hx)
  obtain ⟨l1, l2, l3⟩ := hp.le
  have := hp.two
  have f : Fine (tb (tab b up (cds b d up)) up) (fl up x.1) (fl up x.2) :=
    Fine.congr (t := tb d up) (sb_cvx b up) (fun p q hp hq h1 h2 _ => by
      unfold tb; rw [tab_cds hd (IsPr.mk' hp hq h1 h2)]) (by unfold tb; simp only [fl_fl]; rw [tab_cds hd hp]) (sbp hp) (sbq hp) l1 this (hd.f up x hp)
  rw [fineB_iff.mpr f]
  simp
theorem dkeys_get {d : Dc} {x : Pr} (h : x ∈ dkeys d) : ∃ v, dget d x = some v := by
  unfold dkeys at h
  obtain ⟨y, hy, rfl⟩ := List.mem_map.mp h
  unfold dget
  cases c : d.find? fun z => decide (z.1 = y.1) with
  | none => exact absurd (List.find?_eq_none.mp c y hy) (by simp)
  | some z => exact ⟨z.2, rfl⟩
theorem merge_ok {l1 l2 : Dc} (hn : l1.length + l2.length ≤ 1000000) : ∃ T, (mergeD l1 l2 : R Er Dc) = .ok T ∧ (∀ x, dget T x = if x ∈ dkeys l2 then dget l2 x else dget l1 x) ∧ T.length ≤ l1.length + l2.length := by
  suffices h : wp (mergeD l1 l2 : R Er Dc) fun T => (∀ x, dget T x = if x ∈ dkeys l2 then dget l2 x else dget l1 x) ∧ T.length ≤ l1.length + l2.length from h
  have hk : (dkeys l2).length = l2.length := by unfold dkeys; rw [List.length_map]
  unfold mergeD
  refine wp_forSn (fun i (s : Dc) => (∀ x, dget s x = if x ∈ (dkeys l2).take i then dget l2 x else dget l1 x) ∧ s.length ≤ l1.length + i) ⟨by simp, by simp⟩ (fun i x hx s ⟨e1, e2⟩ => ?_) (fun s ⟨e1, e2⟩ => ?_)
  · have hi := (List.getElem?_eq_some_iff.mp hx).1
    obtain ⟨v, hv⟩ := dkeys_get (List.mem_of_getElem? hx)
    rw [rGet_ok hv]
    simp only [bo]
    rw [wp_bind]
    refine wp_app (by omega) (wp_ok.mpr ⟨fun y => ?_, ?_⟩)
    · rw [dget_put, e1, List.take_add_one, hx]
      by_cases c : y = x
      · rw [if_pos c, if_pos (by simp [c]), c, hv]
      · rw [if_neg c]
        simp [c]
    · have := dput_len s x v
      simp only
      omega
  · refine ⟨fun x => ?_, by omega⟩
    rw [e1, List.take_of_length_le (Nat.le_refl _)]
theorem dic_keys : ∀ l : List (Pr × PySem.Str), ∀ x ∈ dkeys (dic l), x ∈ l.map (·.1) := by
  refine snoc_ind (fun x h => by cases h) fun l z ih x hx => ?_
  rw [dic_snoc] at hx
  unfold dput at hx
  rw [List.map_append, List.mem_append]
  split at hx
  · refine .inl (ih x ?_)
    unfold dkeys at hx ⊢
    rw [List.map_map] at hx
    obtain ⟨y, hy, e⟩ := List.mem_map.mp hx
    refine List.mem_map.mpr ⟨y, hy, ?_⟩
    simp only [Function.comp] at e
    split at e <;> exact e
  · unfold dkeys at hx
    rw [List.map_append, List.mem_append] at hx
    rcases hx with q | q
    · exact .inl (ih x q)
    · exact .inr (by simpa using q)
theorem made_ok {b : Cr} (h1 : 0 ≤ b.1) (h2 : b.1 ≤ 8) (h3 : 0 ≤ b.2) (h4 : b.2 ≤ 8) {d : Dc} (hd : Pln b d) : ∃ T, m_Plane_init b (S (cds b d true)) (S (cds b d false)) = .ok (((((), b), S (cds b d true)), S (cds b d false)), T) ∧ Alike b d T ∧ T.length ≤ 20000 := by
  have F1 : m_has_table_form b ("rising" : PySem.Str) (S (cds b d true)) = .ok true := form_ok (up := true) h1 h2 h3 h4 (cds_v b d true) (cds_len b d true)
  have F2 : m_has_table_form b ("falling" : PySem.Str) (S (cds b d false)) = .ok true := form_ok (up := false) h1 h2 h3 h4 (cds_v b d false) (cds_len b d false)
  have B1 : m_find_broken_pair b ("rising" : PySem.Str) (S (cds b d true)) = .ok none := not_broken h1 h2 h3 h4 hd true
  have B2 : m_find_broken_pair b ("falling" : PySem.Str) (S (cds b d false)) = .ok none := not_broken h1 h2 h3 h4 hd false
  have L1 : m_letters_by_pair b ("rising" : PySem.Str) (S (cds b d true)) = .ok (tab b true (cds b d true)) := letters_ok (up := true) h1 h2 h3 h4 (cds_v b d true)
  have L2 : m_letters_by_pair b ("falling" : PySem.Str) (S (cds b d false)) = .ok (tab b false (cds b d false)) := letters_ok (up := false) h1 h2 h3 h4 (cds_v b d false)
  have n : ∀ up, (tab b up (cds b d up)).length ≤ 6561 := fun up => by
    unfold tab
    refine Nat.le_trans (dic_len _) ?_
    rw [List.length_zip]
    have := prs_len (b := b) (up := up) h2 h4
    omega
  have n1 := n true
  have n2 := n false
  obtain ⟨T, e1, e2, e3⟩ := merge_ok (l1 := tab b true (cds b d true)) (l2 := tab b false (cds b d false)) (by omega)
  refine ⟨T, ?_, fun up x hx => ?_, by omega⟩
  · unfold m_Plane_init
    simp only [bo, forS, F1, F2, B1, B2, L1, L2, e1, Bool.not_true, Bool.false_eq_true, if_false, Option.isSome_none]
  · rw [e2]
    have hk : ∀ y ∈ dkeys (tab b false (cds b d false)), IsPr b false y := fun y hy => by
      unfold tab at hy
      have := dic_keys _ y hy
      rw [List.map_fst_zip (by rw [List.length_map, cds_len]; exact Nat.le_refl _)] at this
      exact prs_mem.mp this
    cases up
    · have : x ∈ dkeys (tab b false (cds b d false)) := by
        obtain ⟨v, hv⟩ := (⟨_, ce_get hd hx⟩ : ∃ v, dget d x = some v)
        rw [← tab_cds hd hx] at hv
        unfold dget at hv
        cases c : (tab b false (cds b d false)).find? fun z => decide (z.1 = x) with
        | none => rw [c] at hv; cases hv
        | some z =>
          have hz := List.find?_some c
          unfold dkeys
          exact List.mem_map.mpr ⟨z, List.mem_of_find?_eq_some c, of_decide_eq_true hz⟩
      rw [if_pos this, tab_cds hd hx]
    · rw [if_neg fun z => by
        have a := is_up (hk x z)
        have b := is_up hx
        rw [← b] at a
        exact nomatch a]
      exact (tab_cds hd hx).symm
def nxt (d : Dc) (p q : Cr) : Cr :=
  if p.1 ≤ q.1 then fl (decide (p.2 ≤ q.2)) (nx (tb d (decide (p.2 ≤ q.2))) (fl (decide (p.2 ≤ q.2)) p) (fl (decide (p.2 ≤ q.2)) q))
  else fl (decide (q.2 ≤ p.2)) (pen (tb d (decide (q.2 ≤ p.2))) (fl (decide (q.2 ≤ p.2)) q) (fl (decide (q.2 ≤ p.2)) p))
theorem le2_fl {up : Bool} {p q : Cr} : le2 (fl up p) (fl up q) ↔ p.1 ≤ q.1 ∧ (if up then p.2 ≤ q.2 else q.2 ≤ p.2) := by
  cases up
  · show p.1 ≤ q.1 ∧ -p.2 ≤ -q.2 ↔ p.1 ≤ q.1 ∧ q.2 ≤ p.2
    omega
  · exact Iff.rfl
def D (p q : Cr) : Nat := (p.1 - q.1).natAbs + (p.2 - q.2).natAbs
theorem D_comm (p q : Cr) : D p q = D q p := by unfold D; omega
theorem D_zero {p q : Cr} (h : D p q = 0) : p = q := by unfold D at h; exact Prod.ext (by omega) (by omega)
theorem D_self (p : Cr) : D p p = 0 := by unfold D; omega
theorem D_pos {p q : Cr} (h : p ≠ q) : 0 < D p q := Nat.pos_of_ne_zero fun z => h (D_zero z)
theorem D_ne {p q : Cr} (h : 0 < D p q) : p ≠ q := fun z => by subst z; rw [D_self] at h; omega
theorem dst_D {up : Bool} {p q : Cr} (h : le2 (fl up p) (fl up q)) : dst (fl up p) (fl up q) = D p q := by
  have := le2_fl.mp h
  unfold dst D
  cases up
  · show (q.1 - p.1 + (-q.2 - -p.2)).toNat = _
    simp only [Bool.false_eq_true, if_false] at this
    omega
  · show (q.1 - p.1 + (q.2 - p.2)).toNat = _
    simp only [if_true] at this
    omega
theorem fl_2 (up : Bool) (p : Cr) : (fl up p).2 = if up then p.2 else -p.2 := by cases up <;> rfl
theorem nxt_f {d : Dc} {up : Bool} {p q : Cr} (h : le2 (fl up p) (fl up q)) : nxt d p q = fl up (nx (tb d up) (fl up p) (fl up q)) := by
  have h' := le2_fl.mp h
  unfold nxt
  rw [if_pos h'.1]
  by_cases c : decide (p.2 ≤ q.2) = up
  · rw [c]
  · have e : p.2 = q.2 := by cases up <;> simp at c h' <;> omega
    have row : ∀ u, fl u (nx (tb d u) (fl u p) (fl u q)) = (p.1 + 1, p.2) := fun u => by
      unfold nx fs
      rw [if_pos (by rw [fl_2, fl_2, e])]
      cases u <;> simp [fl, mv]
    rw [row, row]
theorem nxt_b {d : Dc} {up : Bool} {p q : Cr} (h : le2 (fl up q) (fl up p)) (hne : p ≠ q) : nxt d p q = fl up (pen (tb d up) (fl up q) (fl up p)) := by
  have h' := le2_fl.mp h
  have hD := D_pos hne
  rw [D_comm, ← dst_D h] at hD
  have hd := h.dst
  by_cases c1 : p.1 ≤ q.1
  · have ex : p.1 = q.1 := by omega
    have ey : p.2 ≠ q.2 := fun z => hne (Prod.ext ex z)
    unfold nxt
    rw [if_pos c1]
    have hs : ∀ u, fs (tb d u) (fl u p) (fl u q) = false := fun u => by
      unfold fs
      rw [if_neg (by rw [fl_2, fl_2]; cases u <;> simp <;> omega), if_pos (by rw [fl_1, fl_1, ex])]
    have hl : ls (tb d up) (fl up p) (dst (fl up q) (fl up p)) (fl up q) = false := ls_col (by rw [fl_1, fl_1, ex]) (by rw [fl_1, fl_1] at hd; omega) hD
    unfold nx pen
    rw [hs, hl]
    cases up
    · have : p.2 ≤ q.2 := h'.2
      rw [decide_eq_true this]
      exact Prod.ext rfl (show p.2 + 1 = -(-p.2 - 1) by omega)
    · have : q.2 ≤ p.2 := h'.2
      rw [decide_eq_false (show ¬ p.2 ≤ q.2 by omega)]
      exact Prod.ext rfl (show -(-p.2 + 1) = p.2 - 1 by omega)
  · unfold nxt
    rw [if_neg c1]
    by_cases c : decide (q.2 ≤ p.2) = up
    · rw [c]
    · have e : q.2 = p.2 := by cases up <;> simp at c h' <;> omega
      have row : ∀ u, fl u (pen (tb d u) (fl u q) (fl u p)) = (p.1 - 1, p.2) := fun u => by
        unfold pen
        rw [ls_row (by rw [fl_2, fl_2, e])]
        cases u <;> simp [fl, bk]
      rw [row, row]
/-- a step from p towards q -/
def Stp (p q r : Cr) : Prop := (r = (p.1 + 1, p.2) ∧ p.1 < q.1) ∨ (r = (p.1 - 1, p.2) ∧ q.1 < p.1) ∨ (r = (p.1, p.2 + 1) ∧ p.2 < q.2) ∨ (r = (p.1, p.2 - 1) ∧ q.2 < p.2)
theorem Stp.D {p q r : Cr} (h : Stp p q r) : D r q + 1 = D p q := by
  unfold CpLaw.D
  rcases h with ⟨rfl, h⟩ | ⟨rfl, h⟩ | ⟨rfl, h⟩ | ⟨rfl, h⟩ <;> simp only <;> omega
theorem Stp.on {b p q r : Cr} (h : Stp p q r) (hp : onb b p) (hq : onb b q) : onb b r := by
  obtain ⟨a1, a2, a3, a4⟩ := hp
  obtain ⟨b1, b2, b3, b4⟩ := hq
  rcases h with ⟨rfl, h⟩ | ⟨rfl, h⟩ | ⟨rfl, h⟩ | ⟨rfl, h⟩ <;> exact ⟨by simp only; omega, by simp only; omega, by simp only; omega, by simp only; omega⟩
theorem Stp.uniq {p q r s : Cr} (hc : p.1 = q.1 ∨ p.2 = q.2) (h : Stp p q r) (h' : Stp p q s) : r = s := by
  rcases h with ⟨rfl, h⟩ | ⟨rfl, h⟩ | ⟨rfl, h⟩ | ⟨rfl, h⟩ <;> rcases h' with ⟨rfl, h'⟩ | ⟨rfl, h'⟩ | ⟨rfl, h'⟩ | ⟨rfl, h'⟩ <;> first | rfl | (exfalso; omega)
theorem side (p q : Cr) : (∃ up, le2 (fl up p) (fl up q)) ∨ (∃ up, le2 (fl up q) (fl up p)) := by
  by_cases c : p.1 ≤ q.1
  · refine .inl ⟨decide (p.2 ≤ q.2), le2_fl.mpr ⟨c, ?_⟩⟩
    by_cases e : p.2 ≤ q.2 <;> simp [e] <;> omega
  · refine .inr ⟨decide (q.2 ≤ p.2), le2_fl.mpr ⟨by omega, ?_⟩⟩
    by_cases e : q.2 ≤ p.2 <;> simp [e] <;> omega
theorem nxt_stp (d : Dc) {p q : Cr} (hne : p ≠ q) : Stp p q (nxt d p q) := by
  rcases side p q with ⟨up, h⟩ | ⟨up, h⟩
  · rw [nxt_f h]
    unfold nx
    rcases fs_cases (t := tb d up) h (by rw [dst_D h]; exact D_pos hne) with ⟨e, l⟩ | ⟨e, l⟩
    · rw [e, fl_1, fl_1] at *
      refine .inl ⟨?_, l⟩
      cases up
      · exact Prod.ext rfl (Int.neg_neg _)
      · rfl
    · rw [e]
      rw [fl_2, fl_2] at l
      cases up
      · simp only [Bool.false_eq_true, if_false] at l
        exact .inr (.inr (.inr ⟨Prod.ext rfl (show -(-p.2 + 1) = p.2 - 1 by omega), by omega⟩))
      · exact .inr (.inr (.inl ⟨rfl, l⟩))
  · have h0 : 0 < dst (fl up q) (fl up p) := by rw [dst_D h]; exact D_pos hne.symm
    obtain ⟨a1, a2, _⟩ := pen_le (t := tb d up) h h0
    rw [nxt_b h hne]
    unfold pen at *
    generalize ls (tb d up) (fl up p) (dst (fl up q) (fl up p)) (fl up q) = e at a1
    obtain ⟨b1, b2⟩ := a1
    cases e
    · cases up
      · have b2 : -q.2 ≤ -p.2 - 1 := b2
        exact .inr (.inr (.inl ⟨Prod.ext rfl (show -(-p.2 - 1) = p.2 + 1 by omega), by omega⟩))
      · have b2 : q.2 ≤ p.2 - 1 := b2
        exact .inr (.inr (.inr ⟨rfl, by omega⟩))
    · have b1' : q.1 ≤ p.1 - 1 := by
        rw [fl_1] at b1
        have : (bk (fl up p) true).1 = p.1 - 1 := by show (fl up p).1 - 1 = _; rw [fl_1]
        omega
      refine .inr (.inl ⟨?_, by omega⟩)
      cases up
      · exact Prod.ext rfl (Int.neg_neg _)
      · rfl
theorem sbo {b : Cr} {up : Bool} {p : Cr} (h : onb b p) : Sb b up (fl up p) := by unfold Sb; rw [fl_fl]; exact h
theorem Pln.fs {b : Cr} {d : Dc} (h : Pln b d) (up : Bool) (n : Nat) : FineS (tb d up) (Sb b up) n := fun p q hp hq x1 x2 _ => by
  have := h.f up _ (IsPr.mk' hp hq x1 x2)
  simp only [fl_fl] at this
  exact this
/-- the line from p to q begins as the line to the corner ahead of q -/
theorem nxt_nxt {b : Cr} {d : Dc} (hd : Pln b d) {p q : Cr} (hp : onb b p) (hq : onb b q) (h2 : 2 ≤ D p q) : nxt d p (nxt d q p) = nxt d p q := by
  have hne : p ≠ q := D_ne (by omega)
  have h2' : 2 ≤ D q p := by rw [D_comm]; exact h2
  have sD := (nxt_stp d hne.symm).D
  have hne2 : p ≠ nxt d q p := D_ne (by rw [D_comm]; omega)
  rcases side p q with ⟨up, h⟩ | ⟨up, h⟩
  · have hdst := dst_D h
    obtain ⟨a1, a2, a3⟩ := pen_le (t := tb d up) h (by omega)
    rw [nxt_b h hne.symm] at hne2 ⊢
    rw [nxt_f (up := up) (by rw [fl_fl]; exact a1), fl_fl, nxt_f h]
    congr 1
    unfold nx
    congr 1
    exact FineS.get (hd.fs up (dst (fl up p) (fl up q))) (sbo hp) (sbo hq) h (by omega) (Nat.le_refl _)
  · have hdst := dst_D h
    obtain ⟨k, hk⟩ : ∃ k, dst (fl up q) (fl up p) = k + 2 := ⟨dst (fl up q) (fl up p) - 2, by omega⟩
    obtain ⟨a1, a2⟩ := nx_le (t := tb d up) h (by omega)
    rw [nxt_f h] at hne2 ⊢
    rw [nxt_b (up := up) (by rw [fl_fl]; exact a1) hne2, fl_fl, nxt_b h hne]
    congr 1
    exact pen_nx hk
def lin (f : Cr → Cr) : Nat → Cr → List Cr
  | 0, p => [p]
  | n + 1, p => p :: lin f n (f p)
def line (d : Dc) (p q : Cr) : List Cr := lin (fun r => nxt d r q) (D p q) p
theorem lin_len (f : Cr → Cr) : ∀ (n : Nat) (p : Cr), (lin f n p).length = n + 1
  | 0, _ => rfl
  | n + 1, p => by unfold lin; rw [List.length_cons, lin_len f n]
theorem wk_lin {d : Dc} {up : Bool} {q : Cr} : ∀ (n : Nat) (p : Cr), le2 (fl up p) (fl up q) → D p q = n → (List.range (n + 1)).map (fun i => fl up (ps (tb d up) (fl up q) i (fl up p))) = lin (fun r => nxt d r q) n p
  | 0, p, _, _ => by
    show [fl up (fl up p)] = [p]
    rw [fl_fl]
  | n + 1, p, h, hD => by
    have hdst := dst_D h
    obtain ⟨a1, a2⟩ := nx_le (t := tb d up) h (by omega)
    have sD := (nxt_stp d (D_ne (p := p) (q := q) (by omega))).D
    have e := nxt_f (d := d) h
    rw [List.range_succ_eq_map (n := n + 1), List.map_cons, List.map_map]
    show fl up (fl up p) :: _ = p :: lin _ n (nxt d p q)
    rw [fl_fl, ← wk_lin n (nxt d p q) (by rw [e, fl_fl]; exact a1) (by omega)]
    congr 1
    refine List.map_congr_left fun i _ => ?_
    show fl up (ps (tb d up) (fl up q) i (nx (tb d up) (fl up p) (fl up q))) = _
    rw [e, fl_fl]
theorem wk_line {d : Dc} {up : Bool} {p q : Cr} (h : le2 (fl up p) (fl up q)) : wk d up (fl up p) (fl up q) = line d p q := by
  unfold wk line
  rw [dst_D h]
  exact wk_lin _ p h rfl
theorem wk_nil {b : Cr} {d : Dc} (hd : Pln b d) {up : Bool} {q : Cr} (hq : onb b q) : ∀ (n : Nat) (p : Cr), onb b p → le2 (fl up q) (fl up p) → D p q = n → lin (fun r => nxt d r q) n p = (List.range (n + 1)).map fun j => fl up (ps (tb d up) (fl up p) (n - j) (fl up q))
  | 0, p, _, _, hD => by
    obtain rfl := D_zero hD
    show [p] = [fl up (fl up p)]
    rw [fl_fl]
  | n + 1, p, hp, h, hD => by
    have hdst := dst_D h
    rw [D_comm] at hdst
    obtain ⟨a1, a2, a3⟩ := pen_le (t := tb d up) h (by omega)
    have hne : p ≠ q := D_ne (by omega)
    have st := nxt_stp d hne
    have sD := st.D
    have e := nxt_b (d := d) h hne
    show p :: lin _ n (nxt d p q) = _
    rw [wk_nil hd hq n (nxt d p q) (st.on hp hq) (by rw [e, fl_fl]; exact a1) (by omega), List.range_succ_eq_map (n := n + 1), List.map_cons, List.map_map]
    congr 1
    · rw [Nat.sub_zero, show n + 1 = dst (fl up q) (fl up p) by omega, ps_end h, fl_fl]
    · refine List.map_congr_left fun j hj => ?_
      have := List.mem_range.mp hj
      show fl up (ps (tb d up) (fl up (nxt d p q)) (n - j) (fl up q)) = fl up (ps (tb d up) (fl up p) (n + 1 - (j + 1)) (fl up q))
      rw [e, fl_fl, show n + 1 - (j + 1) = n - j by omega, ← ps_pen (sb_cvx b up) (hd.fs up (n + 1)) n (fl up q) (fl up p) (sbo hq) (sbo hp) h (by omega) (Nat.le_refl _) (n - j) (by omega)]
theorem wk_rev {b : Cr} {d : Dc} (hd : Pln b d) {up : Bool} {p q : Cr} (hp : onb b p) (hq : onb b q) (h : le2 (fl up q) (fl up p)) : (wk d up (fl up q) (fl up p)).reverse = line d p q := by
  unfold line
  rw [wk_nil hd hq _ p hp h rfl]
  have hdst := dst_D h
  rw [D_comm] at hdst
  apply List.ext_getElem
  · rw [List.length_reverse, wk_len]; simp; omega
  · intro i a1 a2
    simp only [List.length_map, List.length_range] at a2
    rw [List.getElem_reverse, wk_get, List.getElem_map, List.getElem_range, wk_len]
    congr 2
    omega
structure Sym (b b' : Cr) (σ τ : Cr → Cr) : Prop where
  on : ∀ {p}, onb b p → onb b' (σ p)
  no : ∀ {p}, onb b' p → onb b (τ p)
  st : ∀ {p q r}, Stp p q r → Stp (σ p) (σ q) (σ r)
  ds : ∀ p q, D (σ p) (σ q) = D p q
  lr : ∀ p, τ (σ p) = p
  rl : ∀ p, σ (τ p) = p
/-- d' has the first letters of the images -/
def Img (σ τ : Cr → Cr) (b' : Cr) (d d' : Dc) : Prop := ∀ up x, IsPr b' up x → ∃ e, dget d' x = some (ltr up e) ∧ fl up (mv (fl up x.1) e) = σ (nxt d (τ x.1) (τ x.2))
section
variable {b b' : Cr} {σ τ : Cr → Cr} {d d' d'' : Dc}
theorem Sym.ds' (s : Sym b b' σ τ) (p q : Cr) : D (τ p) (τ q) = D p q := by rw [← s.ds, s.rl, s.rl]
theorem Sym.ne (s : Sym b b' σ τ) {p q : Cr} (h : p ≠ q) : τ p ≠ τ q := fun z => h (by rw [← s.rl p, z, s.rl])
theorem Sym.st' (s : Sym b b' σ τ) (d : Dc) {p q : Cr} (h : p ≠ q) : Stp p q (σ (nxt d (τ p) (τ q))) := by
  have := s.st (nxt_stp d (s.ne h))
  rw [s.rl, s.rl] at this
  exact this
theorem Img.fwd (s : Sym b b' σ τ) (i : Img σ τ b' d d') {up : Bool} {p q : Cr} (hp : onb b' p) (hq : onb b' q) (hne : p ≠ q) (h : le2 (fl up p) (fl up q)) : nxt d' p q = σ (nxt d (τ p) (τ q)) := by
  have h' := le2_fl.mp h
  by_cases c : p.1 = q.1 ∨ p.2 = q.2
  · exact Stp.uniq c (nxt_stp d' hne) (s.st' d hne)
  · have hx : IsPr b' up (p, q) := by
      have := IsPr.mk' (sbo (up := up) hp) (sbo (up := up) hq) (by rw [fl_1, fl_1]; omega) (by rw [fl_2, fl_2]; cases up <;> simp at h' ⊢ <;> omega)
      rwa [fl_fl, fl_fl] at this
    obtain ⟨e, he, hm⟩ := i up _ hx
    rw [nxt_f h, ← hm]
    unfold nx fs
    rw [if_neg (by rw [fl_2, fl_2]; cases up <;> simp <;> omega), if_neg (by rw [fl_1, fl_1]; omega)]
    unfold tb
    rw [fl_fl, fl_fl, he, ltr_e]
theorem Img.bwd (s : Sym b b' σ τ) (hd : Pln b d) (i : Img σ τ b' d d') {up : Bool} {p : Cr} (hp : onb b' p) : ∀ (n : Nat) (q : Cr), onb b' q → le2 (fl up q) (fl up p) → D p q = n + 1 → nxt d' p q = σ (nxt d (τ p) (τ q))
  | 0, q, hq, h, hD => by
    have hne : p ≠ q := D_ne (by omega)
    have a := (nxt_stp d' hne).D
    have c := (s.st' d hne).D
    rw [D_zero (show D (nxt d' p q) q = 0 by omega), D_zero (show D (σ (nxt d (τ p) (τ q))) q = 0 by omega)]
  | n + 1, q, hq, h, hD => by
    have hne : p ≠ q := D_ne (by omega)
    have hdst := dst_D h
    rw [D_comm] at hdst
    have f := Img.fwd s i hq hp hne.symm h
    have st := nxt_stp d' hne.symm
    have sD := st.D
    have e := nxt_f (d := d') h
    obtain ⟨a1, a2⟩ := nx_le (t := tb d' up) h (by omega)
    have c1 : D p (nxt d' q p) = n + 1 := by rw [D_comm]; rw [D_comm p q] at hD; omega
    have key := Img.bwd s hd i hp n (nxt d' q p) (st.on hq hp) (by rw [e, fl_fl]; exact a1) c1
    rw [nxt_b (up := up) (by rw [e, fl_fl]; exact a1) (D_ne (by omega)), e, fl_fl, pen_nx (show dst (fl up q) (fl up p) = n + 2 by omega), ← nxt_b h hne, ← e, f, s.lr] at key
    rw [key, nxt_nxt hd (s.no hp) (s.no hq) (by rw [s.ds']; omega)]
theorem Img.nxt (s : Sym b b' σ τ) (hd : Pln b d) (i : Img σ τ b' d d') {p q : Cr} (hp : onb b' p) (hq : onb b' q) (hne : p ≠ q) : nxt d' p q = σ (nxt d (τ p) (τ q)) := by
  rcases side p q with ⟨up, h⟩ | ⟨up, h⟩
  · exact Img.fwd s i hp hq hne h
  · have := D_pos hne
    exact Img.bwd s hd i hp (D p q - 1) q hq h (by omega)
theorem IsPr.on {x : Pr} {up : Bool} (h : IsPr b up x) : onb b x.1 ∧ onb b x.2 ∧ x.1 ≠ x.2 := ⟨h.p, h.q, fun z => by have := h.lt; rw [z] at this; omega⟩
theorem Img.pln (s : Sym b b' σ τ) (hd : Pln b d) (i : Img σ τ b' d d') : Pln b' d' := ⟨fun up x hx => by
  obtain ⟨e, he, _⟩ := i up x hx
  exact ⟨e, he⟩, fun up x hx => by
  obtain ⟨o1, o2, hne⟩ := hx.on
  obtain ⟨l1, _, _⟩ := hx.le
  have h2 := hx.two
  have hD : D x.1 x.2 = dx up x := (dst_D l1).symm
  have st := nxt_stp d' hne.symm
  have sD := st.D
  rw [D_comm x.2 x.1] at sD
  have hne2 : x.1 ≠ CpLaw.nxt d' x.2 x.1 := D_ne (by rw [D_comm]; omega)
  have key : CpLaw.nxt d' x.1 (CpLaw.nxt d' x.2 x.1) = CpLaw.nxt d' x.1 x.2 := by
    rw [Img.nxt s hd i o1 (st.on o2 o1) hne2, Img.nxt s hd i o2 o1 hne.symm, s.lr, Img.nxt s hd i o1 o2 hne, nxt_nxt hd (s.no o1) (s.no o2) (by rw [s.ds']; omega)]
  obtain ⟨a1, a2, a3⟩ := pen_le (t := tb d' up) l1 (by unfold dx at h2; omega)
  rw [nxt_b l1 hne.symm, nxt_f (up := up) (by rw [fl_fl]; exact a1), fl_fl, nxt_f l1] at key
  exact mv_inj (fl_inj key)⟩
theorem Img.back (s : Sym b b' σ τ) (hd : Pln b d) (i : Img σ τ b' d d') (i' : Img τ σ b d' d'') : Alike b d d'' := fun up x hx => by
  obtain ⟨o1, o2, hne⟩ := hx.on
  obtain ⟨l1, _, _⟩ := hx.le
  obtain ⟨e, he, hm⟩ := i' up x hx
  have hne' : σ x.1 ≠ σ x.2 := fun z => hne (by rw [← s.lr x.1, z, s.lr])
  rw [Img.nxt s hd i (s.on o1) (s.on o2) hne', s.lr, s.lr, s.lr, nxt_f l1] at hm
  have := mv_inj (fl_inj hm)
  rw [he, this]
  exact get_fs (hd.a up) hx
theorem Img.lin (s : Sym b b' σ τ) (hd : Pln b d) (i : Img σ τ b' d d') {q : Cr} (hq : onb b q) : ∀ (n : Nat) (p : Cr), onb b p → D p q = n → lin (fun r => CpLaw.nxt d' r (σ q)) n (σ p) = (lin (fun r => CpLaw.nxt d r q) n p).map σ
  | 0, p, _, _ => rfl
  | n + 1, p, hp, hD => by
    have hne : p ≠ q := D_ne (by omega)
    have hne' : σ p ≠ σ q := fun z => hne (by rw [← s.lr p, z, s.lr])
    have st := nxt_stp d hne
    have sD := st.D
    show σ p :: CpLaw.lin _ n (CpLaw.nxt d' (σ p) (σ q)) = σ p :: (CpLaw.lin _ n (CpLaw.nxt d p q)).map σ
    rw [Img.nxt s hd i (s.on hp) (s.on hq) hne', s.lr, s.lr, Img.lin s hd i hq n _ (st.on hp hq) (by omega)]
theorem Img.line (s : Sym b b' σ τ) (hd : Pln b d) (i : Img σ τ b' d d') {p q : Cr} (hp : onb b p) (hq : onb b q) : line d' (σ p) (σ q) = (line d p q).map σ := by
  unfold CpLaw.line
  rw [s.ds]
  exact Img.lin s hd i hq _ p hp rfl
end
theorem nxt_alike {b : Cr} {d d' : Dc} (h : Alike b d d') {p q : Cr} (hp : onb b p) (hq : onb b q) (hne : p ≠ q) : nxt d p q = nxt d' p q := by
  rcases side p q with ⟨up, l⟩ | ⟨up, l⟩
  · rw [nxt_f l, nxt_f l]
    unfold nx
    rw [fs_congr (t := tb d up) (t' := tb d' up) (fun h1 h2 => h.agr up (dst (fl up p) (fl up q)) _ _ (sbo hp) (sbo hq) h1 h2 (Nat.le_refl _)) l]
  · rw [nxt_b l hne, nxt_b l hne]
    have := D_pos hne.symm
    obtain ⟨n, hn⟩ : ∃ n, dst (fl up q) (fl up p) = n + 1 := ⟨dst (fl up q) (fl up p) - 1, by rw [dst_D l]; omega⟩
    unfold pen
    rw [hn, ls_congr (sb_cvx b up) (h.agr up _) (sbo hq) (sbo hp) l hn]
theorem on_ok {b p : Cr} (h : onb b p) : m_on_board b p = .ok true := by
  obtain ⟨h1, h2, h3, h4⟩ := h
  unfold m_on_board
  simp only [h1, h2, h3, h4, decide_true, if_true, bo]
theorem while_line {b : Cr} {T : Dc} {up : Bool} {q : Cr} (hq : onb b q) {c : List Cr → R Er Bool} {g : List Cr → R Er (List Cr)} (hc : ∀ w r, c (w ++ [r]) = .ok (!decide (r = q)))
    (hg : ∀ w r, w.length < 1000 → onb b r → le2 (fl up r) (fl up q) → r ≠ q → g (w ++ [r]) = .ok (w ++ [r] ++ [nxt T r q])) :
    ∀ (n : Nat) (p : Cr) (w : List Cr) (N : Nat), onb b p → le2 (fl up p) (fl up q) → D p q = n → n < N → w.length + n < 1000 → whileS c g N (w ++ [p]) = .ok (w ++ lin (fun r => nxt T r q) n p)
  | _, _, _, 0, _, _, _, h, _ => absurd h (by omega)
  | 0, p, w, N + 1, hp, hl, hD, _, _ => by
    obtain rfl := D_zero hD
    unfold whileS
    rw [hc, bo]
    simp [lin]
  | n + 1, p, w, N + 1, hp, hl, hD, hN, hw => by
    have hne : p ≠ q := D_ne (by omega)
    have hdst := dst_D hl
    obtain ⟨a1, a2⟩ := nx_le (t := tb T up) hl (by omega)
    have st := nxt_stp T hne
    have sD := st.D
    unfold whileS
    rw [hc, bo, if_pos (by simpa using hne), hg w p (by omega) hp hl hne, bo]
    rw [while_line hq hc hg n (nxt T p q) (w ++ [p]) N (st.on hp hq) (by rw [nxt_f hl, fl_fl]; exact a1) (by omega) (by omega) (by simp; omega)]
    rw [List.append_assoc]
    rfl
theorem D_le {b p q : Cr} (h2 : b.1 ≤ 8) (h4 : b.2 ≤ 8) (hp : onb b p) (hq : onb b q) : D p q ≤ 16 := by
  obtain ⟨a1, a2, a3, a4⟩ := hp
  obtain ⟨b1, b2, b3, b4⟩ := hq
  unfold D
  omega
theorem plet_ok {b : Cr} {T : Dc} (hT : Pln b T) {x : Unit × Cr} {r f : PySem.Str} {up : Bool} {p q : Cr} (hp : onb b p) (hq : onb b q) (h : le2 (fl up p) (fl up q)) (hne : p ≠ q) : m_Plane_letter (((x, r), f), T) p q = .ok (ltr up (fs (tb T up) (fl up p) (fl up q))) := by
  have F : Full b up T := hT.a up
  have := letter_ok (F.cov (dst (fl up p) (fl up q))) (sbo (up := up) hp) (sbo (up := up) hq) h (by rw [dst_D h]; exact D_pos hne) (Nat.le_refl _)
  rw [fl_fl, fl_fl] at this
  unfold m_Plane_letter
  rw [first_eq, this, bo]
theorem walked_ok {b : Cr} (h2 : b.1 ≤ 8) (h4 : b.2 ≤ 8) {T : Dc} (hT : Pln b T) {x : Unit × Cr} {r f : PySem.Str} {up : Bool} {p q : Cr} (hp : onb b p) (hq : onb b q) (h : le2 (fl up p) (fl up q)) : m_Plane_walked (((x, r), f), T) p q = .ok (line T p q) := by
  have h16 := D_le h2 h4 hp hq
  unfold m_Plane_walked
  rw [bo, show ([p] : List Cr) = [] ++ [p] from rfl]
  have el : ∀ (w : List Cr) (r : Cr), (rIx (w ++ [r]) (-(1 : Int)) : R Er Cr) = .ok r := fun w r => (rIx_last (by simp)).trans (by simp)
  rw [while_line (T := T) (up := up) hq (fun w r => ?_) (fun w r hw hr hl hne => ?_) (D p q) p [] fuel hp h rfl (by unfold fuel; omega) (by simp; omega), bo]
  · rfl
  · simp only [el, bo]
  · have e := moved_ok up (fs (tb T up) (fl up r) (fl up q)) (fl up r)
    rw [fl_fl] at e
    simp only [el, bo]
    rw [plet_ok hT hr hq hl hne]
    simp only [bo]
    rw [moved_own_eq, e]
    simp only [bo]
    rw [show (rApp (w ++ [r]) (fl up (mv (fl up r) (fs (tb T up) (fl up r) (fl up q)))) : R Er Cr) = .ok (nxt T r q) by rw [nxt_f hl]; exact wp.eq (wp_app (by simp; omega) rfl), bo]
theorem lex_t {p q : Cr} (h : ltC q p = true) : ∃ up, le2 (fl up q) (fl up p) := by
  unfold ltC at h
  have h := of_decide_eq_true h
  refine ⟨decide (q.2 ≤ p.2), le2_fl.mpr ⟨by omega, ?_⟩⟩
  by_cases e : q.2 ≤ p.2 <;> simp [e] <;> omega
theorem lex_f {p q : Cr} (h : ¬ ltC q p = true) : ∃ up, le2 (fl up p) (fl up q) := by
  unfold ltC at h
  have h : ¬ (q.1 < p.1 ∨ (q.1 = p.1 ∧ q.2 < p.2)) := fun z => h (decide_eq_true z)
  refine ⟨decide (p.2 ≤ q.2), le2_fl.mpr ⟨by omega, ?_⟩⟩
  by_cases e : p.2 ≤ q.2 <;> simp [e] <;> omega
theorem rev_line {b : Cr} {d : Dc} (hd : Pln b d) {up : Bool} {p q : Cr} (hp : onb b p) (hq : onb b q) (h : le2 (fl up q) (fl up p)) : (line d q p).reverse = line d p q := by
  rw [← wk_line h, wk_rev hd hp hq h]
theorem pline_ok {b : Cr} (h2 : b.1 ≤ 8) (h4 : b.2 ≤ 8) {T : Dc} (hT : Pln b T) {r f : PySem.Str} {p q : Cr} (hp : onb b p) (hq : onb b q) : m_Plane_line (((((), b), r), f), T) p q = .ok (line T p q) := by
  unfold m_Plane_line
  simp only [forS, on_ok hp, on_ok hq, bo, Bool.not_true, Bool.false_eq_true, if_false]
  by_cases c : ltC q p = true
  · obtain ⟨up, h⟩ := lex_t c
    rw [if_pos c, walked_ok h2 h4 hT hq hp h]
    simp only [bo]
    rw [rev_line hT hp hq h]
  · obtain ⟨up, h⟩ := lex_f c
    rw [if_neg c, walked_ok h2 h4 hT hp hq h, bo]
/-- the law's own line -/
theorem line_ok {b : Cr} (h2 : b.1 ≤ 8) (h4 : b.2 ≤ 8) {d : Dc} (hd : Pln b d) {p q : Cr} (hp : onb b p) (hq : onb b q) : m_line d p q = .ok (line d p q) := by
  unfold m_line
  by_cases c : ltC q p = true
  · obtain ⟨up, h⟩ := lex_t c
    have := walk_at h2 h4 (hd.a up) (sbo hq) (sbo hp) h
    rw [fl_fl, fl_fl] at this
    rw [if_pos c, this]
    simp only [bo]
    rw [wk_rev hd hp hq h]
  · obtain ⟨up, h⟩ := lex_f c
    have := walk_at h2 h4 (hd.a up) (sbo hp) (sbo hq) h
    rw [fl_fl, fl_fl] at this
    rw [if_neg c, this, bo, wk_line h]
theorem line_len (d : Dc) (p q : Cr) : (line d p q).length = D p q + 1 := lin_len ..
def LT2 (a b : Cr) : Prop := a.1 < b.1 ∨ (a.1 = b.1 ∧ a.2 < b.2)
instance (a b : Cr) : Decidable (LT2 a b) := inferInstanceAs (Decidable (_ ∨ _))
abbrev py2 (a : Cr) : PyData := PyData.tuple [PyData.int a.1, PyData.int a.2]
theorem le_2 (a b : Cr) : PySem.W.dataLe false py2 a b = !decide (LT2 b a) := by
  show (!PyProof.Rows.lexLt PyProof.Rows.itemOrd (PySem.W.keyToks (py2 b)) (PySem.W.keyToks (py2 a))) = _
  obtain ⟨x, y⟩ := a
  obtain ⟨x', y'⟩ := b
  congr 1
  rw [Bool.eq_iff_iff, decide_eq_true_iff]
  simp [PySem.W.keyToks, PySem.W.keyToksAll, PyProof.Rows.lexLt, PyProof.Rows.itemLt, LT2]
  omega
theorem line_on {b : Cr} {d : Dc} {q : Cr} (hq : onb b q) : ∀ (n : Nat) (p : Cr), onb b p → D p q = n → ∀ x ∈ lin (fun r => nxt d r q) n p, onb b x
  | 0, p, hp, _, x, hx => by
    have : x ∈ [p] := hx
    rw [List.mem_singleton] at this
    subst this; exact hp
  | n + 1, p, hp, hD, x, hx => by
    have hne : p ≠ q := D_ne (by omega)
    have st := nxt_stp d hne
    have sD := st.D
    have hx : x ∈ p :: lin (fun r => nxt d r q) n (nxt d p q) := hx
    rcases List.mem_cons.mp hx with z | z
    · subst z; exact hp
    · exact line_on hq n _ (st.on hp hq) (by omega) x z
theorem lin_alike {b : Cr} {d d' : Dc} (h : Alike b d d') {q : Cr} (hq : onb b q) : ∀ (n : Nat) (p : Cr), onb b p → D p q = n → lin (fun r => nxt d r q) n p = lin (fun r => nxt d' r q) n p
  | 0, _, _, _ => rfl
  | n + 1, p, hp, hD => by
    have hne : p ≠ q := D_ne (by omega)
    have st := nxt_stp d' hne
    have sD := st.D
    show p :: lin (fun r => nxt d r q) n (nxt d p q) = p :: lin (fun r => nxt d' r q) n (nxt d' p q)
    rw [nxt_alike h hp hq hne, lin_alike h hq n _ (st.on hp hq) (by omega)]
theorem line_alike {b : Cr} {d d' : Dc} (h : Alike b d d') {p q : Cr} (hp : onb b p) (hq : onb b q) : line d p q = line d' p q := lin_alike h hq _ p hp rfl
abbrev E3 := Cr × Cr × Cr
theorem line_onb {b : Cr} {d : Dc} {p q : Cr} (hp : onb b p) (hq : onb b q) : ∀ x ∈ line d p q, onb b x := line_on hq _ p hp rfl
def drv (d : Dc) : List E3 → List Cr → Bool
  | [], _ => true
  | e :: E, s => if memB e.2.1 s && memB e.2.2 s then (if memB e.1 (line d e.2.1 e.2.2) then drv d E (s ++ [e.1]) else false) else false
section
variable {b : Cr}
theorem on_snoc {s : List Cr} {c : Cr} (hs : ∀ x ∈ s, onb b x) (hc : onb b c) : ∀ x ∈ s ++ [c], onb b x := fun x hx => by
  rcases List.mem_append.mp hx with q | q
  · exact hs x q
  · rw [List.mem_singleton.mp q]; exact hc
theorem drv_alike {d d' : Dc} (h : Alike b d d') : ∀ (E : List E3) (s : List Cr), (∀ x ∈ s, onb b x) → drv d E s = drv d' E s
  | [], _, _ => rfl
  | e :: E, s, hs => by
    unfold drv
    cases c1 : memB e.2.1 s with
    | false => rfl
    | true =>
      cases c2 : memB e.2.2 s with
      | false => rfl
      | true =>
        have o1 := hs _ (memB_iff.mp c1)
        have o2 := hs _ (memB_iff.mp c2)
        rw [line_alike h o1 o2]
        cases c3 : memB e.1 (line d' e.2.1 e.2.2) with
        | false => rfl
        | true =>
          rw [drv_alike h E _ (on_snoc hs (line_onb o1 o2 _ (memB_iff.mp c3)))]
theorem drv_loop {d : Dc} {f : E3 → List Cr → R Er (List Cr ⊕ Bool)} (hf : ∀ e s, (∀ x ∈ s, onb b x) → s.length < 60 → f e s = .ok (if memB e.2.1 s && memB e.2.2 s then (if memB e.1 (line d e.2.1 e.2.2) then .inl (s ++ [e.1]) else .inr false) else .inr false)) :
    ∀ (E : List E3) (s : List Cr), (∀ x ∈ s, onb b x) → s.length + E.length ≤ 60 → ∃ s', forX f E s = .ok (if drv d E s then .inl s' else .inr false)
  | [], s, _, _ => ⟨s, rfl⟩
  | e :: E, s, hs, hn => by
    rw [List.length_cons] at hn
    unfold drv
    show ∃ s', ((f e s).bind _) = _
    rw [hf e s hs (by omega)]
    cases c1 : memB e.2.1 s with
    | false => exact ⟨[], rfl⟩
    | true =>
      cases c2 : memB e.2.2 s with
      | false => exact ⟨[], rfl⟩
      | true =>
        cases c3 : memB e.1 (line d e.2.1 e.2.2) with
        | false => exact ⟨[], rfl⟩
        | true =>
          obtain ⟨s', h⟩ := drv_loop hf E (s ++ [e.1]) (on_snoc hs (line_onb (hs _ (memB_iff.mp c1)) (hs _ (memB_iff.mp c2)) _ (memB_iff.mp c3))) (by rw [List.length_append, List.length_singleton]; omega)
          exact ⟨s', h⟩
theorem is_derivation_ok (h2 : b.1 ≤ 8) (h4 : b.2 ≤ 8) {d T : Dc} {r f : PySem.Str} (hT : Pln b T) (al : Alike b d T) {C : List Cr} {E : List E3} (hC : ∀ x ∈ C, onb b x) (hn : C.length + E.length ≤ 60) : m_is_derivation (((((), b), r), f), T) C E = .ok (drv d E C) := by
  unfold m_is_derivation
  rw [show (rSetC C : R Er (List Cr)) = .ok C from by unfold rSetC; rw [if_pos (by omega)]]
  simp only [bo]
  obtain ⟨s', h⟩ := drv_loop (b := b) (d := T) (f := fun (i2 : E3) (s3 : List Cr) => if ((!memB i2.2.1 s3) || (!memB i2.2.2 s3)) then (R.ok (.inr false)) else
  ((((m_Plane_line (((((), b), r), f), T) i2.2.1 i2.2.2)).bind fun v7 => R.ok (!memB i2.1 v7)).bind fun v10 => if v10 then (R.ok (.inr false)) else
  (((rSadd s3 i2.1)).bind fun (c9 : Cr) =>
  R.ok (.inl (s3 ++ [c9]))))) (fun e s hs hn => by
    cases c1 : memB e.2.1 s with
    | false => rfl
    | true =>
      cases c2 : memB e.2.2 s with
      | false => rfl
      | true =>
        rw [if_neg (by simp), pline_ok h2 h4 hT (hs _ (memB_iff.mp c1)) (hs _ (memB_iff.mp c2))]
        simp only [bo]
        cases c3 : memB e.1 (line T e.2.1 e.2.2) with
        | false => rfl
        | true =>
          rw [if_neg (by simp), show (rSadd s e.1 : R Er Cr) = .ok e.1 from by unfold rSadd; rw [if_pos (by omega)]]
          rfl) E C hC hn
  rw [h, drv_alike al E C hC]
  cases drv T E C <;> rfl
theorem forX_fs {α β γ : Type} {f : α → Unit → R Er (Unit ⊕ β)} (g : α → Option γ) (w : γ → β) : ∀ L : List α, (∀ x ∈ L, f x () = .ok (match g x with | none => .inl () | some c => .inr (w c))) → forX f L () = .ok (match L.findSome? g with | none => .inl () | some c => .inr (w c))
  | [], _ => rfl
  | x :: L, h => by
    show (f x ()).bind _ = _
    rw [h x List.mem_cons_self, List.findSome?_cons]
    cases g x with
    | none => exact forX_fs g w L fun y hy => h y (List.mem_cons_of_mem _ hy)
    | some c => rfl
def cg (l : List Cr) (k : Int) : Cr := l.getD k.toNat (0, 0)
def opn (d : Dc) (row test : List Cr) : Option E3 := (rng 0 row.length).findSome? fun k => (cut row (some (k + 1)) none).findSome? fun o => ((line d (cg row k) o).find? fun c => !memB c test).map fun c => (cg row k, o, c)
theorem cut_mem {α : Type} {l : List α} {lo hi : Option Int} {x : α} (h : x ∈ cut l lo hi) : x ∈ l := by
  unfold cut at h
  exact List.mem_of_mem_drop (List.mem_of_mem_take h)
theorem find_cg {α : Type} {f g : α → Bool} {l : List α} (h : ∀ x ∈ l, f x = g x) : l.find? f = l.find? g := by
  induction l with
  | nil => rfl
  | cons x l ih => rw [List.find?_cons, List.find?_cons, h x List.mem_cons_self, ih fun y hy => h y (List.mem_cons_of_mem _ hy)]
theorem fs_cg {α β : Type} {f g : α → Option β} {l : List α} (h : ∀ x ∈ l, f x = g x) : l.findSome? f = l.findSome? g := by
  induction l with
  | nil => rfl
  | cons x l ih => rw [List.findSome?_cons, List.findSome?_cons, h x List.mem_cons_self, ih fun y hy => h y (List.mem_cons_of_mem _ hy)]
theorem cg_mem {l : List Cr} {k : Int} (h : k ∈ rng 0 l.length) : cg l k ∈ l ∧ (rIx l k : R Er Cr) = .ok (cg l k) := by
  have h := rng_mem.mp h
  have e : cg l k = l[k.toNat]'(by omega) := by
    unfold cg
    rw [List.getD_eq_getElem?_getD, List.getElem?_eq_getElem (by omega)]
    rfl
  rw [e]
  exact ⟨List.getElem_mem _, rIx_ok (by omega) (by omega)⟩
theorem opn_alike {d d' : Dc} (h : Alike b d d') {row t t' : List Cr} (hr : ∀ x ∈ row, onb b x) (ht : ∀ c, c ∈ t ↔ c ∈ t') : opn d row t = opn d' row t' := by
  unfold opn
  refine fs_cg fun k hk => fs_cg fun o ho => ?_
  rw [line_alike h (hr _ (cg_mem hk).1) (hr _ (cut_mem ho))]
  rw [find_cg (g := fun c => !memB c t') fun c _ => by unfold memB; rw [decide_eq_decide.mpr (ht c)]]
theorem open_pair_ok (h2 : b.1 ≤ 8) (h4 : b.2 ≤ 8) {T : Dc} {r f : PySem.Str} (hT : Pln b T) {C : List Cr} (hC : ∀ x ∈ C, onb b x) (hn : C.length < 64) : m_open_pair (((((), b), r), f), T) C = .ok (opn T (srtC C) C) := by
  have hin : inC C = true := List.all_eq_true.mpr fun c hc => by
    obtain ⟨a1, a2, a3, a4⟩ := hC c hc
    exact decide_eq_true (by omega)
  have hrow : ∀ x ∈ srtC C, onb b x := fun x hx => hC x (mem_dd.mp ((srtC_perm C).mem_iff.mp hx))
  have hl : (srtC C).length ≤ 64 := by
    have := List.Nodup.length_le_of_subset (nd_dd C) (l₂ := C) fun x hx => mem_dd.mp hx
    rw [(srtC_perm C).length_eq]
    omega
  unfold m_open_pair
  rw [show (rSetC C : R Er (List Cr)) = .ok C from by unfold rSetC; rw [if_pos hn]]
  simp only [bo]
  rw [show (rSortC C : R Er (List Cr)) = .ok (srtC C) from by unfold rSortC; rw [if_pos hin]]
  simp only [bo]
  rw [rRng_ok (by omega) (by omega) (by omega) (by omega)]
  simp only [bo]
  generalize srtC C = row at hrow hl
  rw [forX_fs (fun k => (cut row (some (k + 1)) none).findSome? fun o => ((line T (cg row k) o).find? fun c => !memB c C).map fun c => (cg row k, o, c)) (fun e => some e)]
  · unfold opn
    cases (rng 0 (row.length : Int)).findSome? fun k => (cut row (some (k + 1)) none).findSome? fun o => ((line T (cg row k) o).find? fun c => !memB c C).map fun c => (cg row k, o, c) <;> rfl
  · intro k hk
    obtain ⟨k1, k2⟩ := cg_mem hk
    rw [forX_fs (fun o => ((line T (cg row k) o).find? fun c => !memB c C).map fun c => (cg row k, o, c)) (fun e => some e)]
    · cases (cut row (some (k + 1)) none).findSome? fun o => ((line T (cg row k) o).find? fun c => !memB c C).map fun c => (cg row k, o, c) <;> rfl
    · intro o ho
      rw [k2]
      simp only [bo]
      rw [pline_ok h2 h4 hT (hrow _ k1) (hrow _ (cut_mem ho))]
      simp only [bo]
      rw [forX_find (fun c => !memB c C) (fun c => some (cg row k, o, c))]
      · cases (line T (cg row k) o).find? fun c => !memB c C <;> rfl
      · intro c hc
        cases memB c C <;> rfl
theorem all_corners_ok (h1 : 0 ≤ b.1) (h2 : b.1 ≤ 8) (h3 : 0 ≤ b.2) (h4 : b.2 ≤ 8) : m_all_corners b = .ok (corners b) := by
  unfold m_all_corners
  rw [rRng_ok (by omega) (by omega) (by omega) (by omega), rRng_ok (by omega) (by omega) (by omega) (by omega)]
  simp only [bo]
  have e := forS_col (N := 10000) (f := fun (x_2 : Int) (s3 : List Cr) => (forS (fun (y_4 : Int) (s5 : List Cr) => ((rApp s5 (x_2, y_4))).bind fun (c7 : Cr) => R.ok (s5 ++ [c7])) (rng 0 (b.2 + 1)) s3).bind fun (s9 : List Cr) => R.ok s9) (fun x => (rng 0 (b.2 + 1)).map fun y => (x, y)) (rng 0 (b.1 + 1)) [] (fun x hx s hs => by
    have e2 := forS_col (N := 10000) (f := fun (y_4 : Int) (s5 : List Cr) => ((rApp s5 (x, y_4))).bind fun (c7 : Cr) => R.ok (ε := Er) (s5 ++ [c7])) (fun y => [(x, y)]) (rng 0 (b.2 + 1)) s (fun y hy s hs => by
      rw [show (rApp s (x, y) : R Er Cr) = .ok (x, y) from wp.eq (wp_app (by simp at hs; omega) rfl)]
      rfl) (by rw [← List.map_eq_flatMap]; exact hs)
    rw [e2, ← List.map_eq_flatMap]
    rfl) (by
      have := flatMap_len (f := fun x => (rng 0 (b.2 + 1)).map fun y => (x, y)) (k := 9) (l := rng 0 (b.1 + 1)) fun x _ => by rw [List.length_map, rng_len]; omega
      rw [rng_len] at this
      simp only [List.length_nil]
      omega)
  rw [e]
  rfl
theorem corners_srt (h4 : b.2 ≤ 8) : (corners b).Pairwise fun p q => cdC p < cdC q := by
  refine pw_flat (fun x hx => List.pairwise_map.mpr ((rng_pw _ _).imp fun {y y'} h => by unfold cdC; simp only; omega)) ((rng_pw _ _).imp_of_mem fun {x x'} hx hx' h p hp q hq => ?_)
  obtain ⟨y, hy, rfl⟩ := List.mem_map.mp hp
  obtain ⟨y', hy', rfl⟩ := List.mem_map.mp hq
  have := rng_mem.mp hy
  have := rng_mem.mp hy'
  unfold cdC
  simp only
  omega
theorem corners_nd (h4 : b.2 ≤ 8) : (corners b).Nodup := (corners_srt h4).imp fun {p q} h e => by rw [e] at h; omega
theorem corners_len (h1 : 0 ≤ b.1) (h3 : 0 ≤ b.2) : ((corners b).length : Int) = (b.1 + 1) * (b.2 + 1) := by
  unfold corners
  rw [List.length_flatMap]
  have : ((rng 0 (b.1 + 1)).map fun x => ((rng 0 (b.2 + 1)).map fun y => (x, y)).length) = (rng 0 (b.1 + 1)).map fun _ => (b.2 + 1).toNat := List.map_congr_left fun x _ => by rw [List.length_map, rng_len]; omega
  rw [this, List.map_const', List.sum_replicate_nat, rng_len]
  rw [Int.natCast_mul]
  congr 1 <;> omega
theorem row_srt (h4 : b.2 ≤ 8) (h2 : b.1 ≤ 8) {C : List Cr} (hC : ∀ x ∈ C, onb b x) : (corners b).filter (fun c => memB c C) = srtC C := by
  refine srtC_uniq (List.all_eq_true.mpr fun c hc => ?_) ((corners_nd h4).filter _) (fun c => ?_) (((corners_srt h4).filter _).imp fun h => by omega)
  · obtain ⟨a1, a2, a3, a4⟩ := hC c hc
    exact decide_eq_true (by omega)
  · rw [List.mem_filter, memB_iff, corners_mem]
    exact ⟨fun z => z.2, fun z => ⟨hC c z, z⟩⟩
theorem path_3 (t : E3) : m_is_path (some t) t = .ok true := by
  have u : (unO (some t) : R Er E3) = .ok t := rfl
  have ic : ∀ c : Cr, m_is_corner c = .ok true := fun _ => rfl
  unfold m_is_path
  rw [if_neg (by simp [optB]), u]
  simp only [bo, decide_true, Bool.not_true, Bool.false_eq_true, if_false]
  rw [rRng_ok (by omega) (by omega) (by omega) (by omega)]
  simp only [bo]
  rw [forX_any (fun _ => false) false]
  · rw [List.any_eq_false.mpr (by simp)]
    rfl
  · intro k hk
    have hk := rng_mem.mp hk
    rw [rIx_ok hk.1 (by simpa using hk.2)]
    simp only [bo, ic, Bool.not_true, Bool.false_eq_true, if_false, decide_true]
theorem is_open_same (w : Option E3) : m_is_open w w = .ok true := by
  unfold m_is_open
  cases w with
  | none => rfl
  | some t =>
    rw [if_neg (by simp), show (unO (some t) : R Er E3) = .ok t from rfl]
    simp only [bo]
    rw [path_3]
    rfl
theorem srtC_same {C C' : List Cr} (hC : ∀ x ∈ C, 0 ≤ x.1 ∧ x.1 < 64 ∧ 0 ≤ x.2 ∧ x.2 < 64) (h : ∀ c, c ∈ C ↔ c ∈ C') : srtC C = srtC C' :=
  srtC_uniq (List.all_eq_true.mpr fun c hc => decide_eq_true (hC c ((h c).mpr hc))) ((srtC_perm C).nodup_iff.mpr (nd_dd C)) (fun c => ((srtC_perm C).mem_iff.trans mem_dd).trans (h c)) (srtC_pw C)
end
def Bd (b : Cr) : Prop := (b.1 ≤ 3 ∧ b.2 ≤ 3) ∨ b = (8, 1) ∨ b = (1, 8) ∨ b = (5, 2) ∨ b = (2, 5)
theorem Bd.len {b : Cr} (h1 : 0 ≤ b.1) (h3 : 0 ≤ b.2) (h : Bd b) : (corners b).length ≤ 18 := by
  have e := corners_len h1 h3
  have : (b.1 + 1) * (b.2 + 1) ≤ 18 := by
    rcases h with h | h | h | h | h
    · have : (b.1 + 1) * (b.2 + 1) ≤ 4 * 4 := Int.mul_le_mul (by omega) (by omega) (by omega) (by omega)
      omega
    all_goals rw [h]; decide
  omega
theorem some_wp {c : Int} {P : Cr → Prop} (h : ∀ b : Cr, 0 ≤ b.1 → b.1 ≤ 8 → 0 ≤ b.2 → b.2 ≤ 8 → Bd b → P b) : wp (m_some_board c) P := by
  unfold m_some_board
  rw [wp_bind]
  refine draws_wp (by simp) (by simp) fun d hl hd => ?_
  simp only [wp_bind, wp_ok]
  refine dix hl hd (y := 8) (by omega) rfl fun _ _ _ => wp_ite.mpr ⟨fun _ => ?_, fun _ => ?_⟩
  · simp only [wp_bind, wp_ok]
    refine dix hl hd (y := 4) (by omega) rfl fun v v0 v1 => ?_
    have hv : v = 0 ∨ v = 1 ∨ v = 2 ∨ v = 3 := by omega
    rcases hv with rfl | rfl | rfl | rfl
    · exact ⟨(8, 1), rfl, h _ (by simp) (by simp) (by simp) (by simp) (.inr (.inl rfl))⟩
    · exact ⟨(1, 8), rfl, h _ (by simp) (by simp) (by simp) (by simp) (.inr (.inr (.inl rfl)))⟩
    · exact ⟨(5, 2), rfl, h _ (by simp) (by simp) (by simp) (by simp) (.inr (.inr (.inr (.inl rfl))))⟩
    · exact ⟨(2, 5), rfl, h _ (by simp) (by simp) (by simp) (by simp) (.inr (.inr (.inr (.inr rfl))))⟩
  · rw [wp_bind]
    unfold m_board
    rw [wp_bind]
    refine draws_wp (by simp) (by simp) fun d hl hd => ?_
    simp only [wp_bind, wp_ok]
    refine dix hl hd (y := 8) (by omega) rfl fun _ _ _ => wp_ite.mpr ⟨fun _ => ?_, fun _ => ?_⟩
    · simp only [wp_bind, wp_ok]
      exact dix hl hd (y := 3 + 1) (by omega) rfl fun x x0 x1 => dix hl hd (y := 3 + 1) (by omega) rfl fun y y0 y1 => h _ (by simp only; omega) (by simp only; omega) (by simp only; omega) (by simp only; omega) (.inl ⟨by simp only; omega, by simp only; omega⟩)
    · simp only [wp_bind, wp_ok]
      exact dix hl hd (y := 3) (by omega) rfl fun x x0 x1 => dix hl hd (y := 3) (by omega) rfl fun y y0 y1 => h _ (by simp only; omega) (by simp only; omega) (by simp only; omega) (by simp only; omega) (.inl ⟨by simp only; omega, by simp only; omega⟩)
theorem cut_le {α : Type} (l : List α) (lo hi : Option Int) : (cut l lo hi).length ≤ l.length := by
  unfold cut
  rw [List.length_take, List.length_drop]
  omega
theorem line_sym {b : Cr} {d : Dc} (hd : Pln b d) {p q : Cr} (hp : onb b p) (hq : onb b q) {c : Cr} (h : c ∈ line d p q) : c ∈ line d q p := by
  rcases side p q with ⟨up, z⟩ | ⟨up, z⟩
  · rw [← rev_line hd hq hp z]
    exact List.mem_reverse.mpr h
  · rw [← rev_line hd hp hq z] at h
    exact List.mem_reverse.mp h
theorem line_self (d : Dc) (p : Cr) : line d p p = [p] := by
  unfold line
  rw [D_self]
  rfl
inductive Cl (d : Dc) (C : List Cr) : Cr → Prop
  | base {c : Cr} : c ∈ C → Cl d C c
  | step {p q c : Cr} : Cl d C p → Cl d C q → c ∈ line d p q → Cl d C c
def Clo (d : Dc) (X : List Cr) : Prop := ∀ p ∈ X, ∀ q ∈ X, ∀ c ∈ line d p q, c ∈ X
theorem Cl.on {b : Cr} {d : Dc} {C : List Cr} (hC : ∀ c ∈ C, onb b c) {c : Cr} (h : Cl d C c) : onb b c := by
  induction h with
  | base h => exact hC _ h
  | step _ _ h ih1 ih2 => exact line_onb ih1 ih2 _ h
theorem Cl.min {d : Dc} {C X : List Cr} (h0 : ∀ c ∈ C, c ∈ X) (hX : Clo d X) {c : Cr} (h : Cl d C c) : c ∈ X := by
  induction h with
  | base h => exact h0 _ h
  | step _ _ h ih1 ih2 => exact hX _ ih1 _ ih2 _ h
theorem Cl.mono {d : Dc} {C C' : List Cr} (h0 : ∀ c ∈ C, Cl d C' c) {c : Cr} (h : Cl d C c) : Cl d C' c := by
  induction h with
  | base h => exact h0 _ h
  | step _ _ h ih1 ih2 => exact .step ih1 ih2 h
theorem Cl.alike {b : Cr} {d T : Dc} (al : Alike b d T) {C : List Cr} (hC : ∀ c ∈ C, onb b c) {c : Cr} : Cl d C c ↔ Cl T C c := by
  constructor
  · intro h
    induction h with
    | base h => exact .base h
    | step h1 h2 h ih1 ih2 => exact .step ih1 ih2 (by rw [← line_alike al (h1.on hC) (h2.on hC)]; exact h)
  · intro h
    induction h with
    | base h => exact .base h
    | step h1 h2 h ih1 ih2 => exact .step ih1 ih2 (by rw [line_alike al (h1.on hC) (h2.on hC)]; exact h)
/-- the sorted row of the closure -/
structure IsS (d : Dc) (C S : List Cr) : Prop where
  m : ∀ c, c ∈ S ↔ Cl d C c
  n : S.Nodup
  p : S.Pairwise fun a b => cdC a ≤ cdC b
theorem IsS.clo {d : Dc} {C S : List Cr} (h : IsS d C S) : Clo d S := fun p hp q hq c hc => (h.m c).mpr (.step ((h.m p).mp hp) ((h.m q).mp hq) hc)
theorem IsS.uniq {b : Cr} (h2 : b.1 ≤ 8) (h4 : b.2 ≤ 8) {d : Dc} {C C' S S' : List Cr} (hC : ∀ c ∈ C, onb b c) (h : IsS d C S) (h' : IsS d C' S') (e : ∀ c, Cl d C c ↔ Cl d C' c) : S = S' := by
  have hin : inC S' = true := List.all_eq_true.mpr fun c hc => by
    obtain ⟨a1, a2, a3, a4⟩ := ((e c).mpr ((h'.m c).mp hc)).on hC
    exact decide_eq_true (by omega)
  rw [srtC_uniq hin h.n (fun c => (h.m c).trans ((e c).trans (h'.m c).symm)) h.p]
  exact (srtC_uniq hin h'.n (fun c => Iff.rfl) h'.p).symm
section
variable {b : Cr}
theorem filter_lt {α : Type} {p q : α → Bool} (h : ∀ c, q c = true → p c = true) {x : α} (h1 : p x = true) (h2 : q x = false) : ∀ {l : List α}, x ∈ l → (l.filter q).length < (l.filter p).length
  | [], hx => absurd hx List.not_mem_nil
  | y :: l, hx => by
    have le : ∀ l : List α, (l.filter q).length ≤ (l.filter p).length := fun l => by
      induction l with
      | nil => exact Nat.le_refl _
      | cons y l ih =>
        rw [List.filter_cons, List.filter_cons]
        cases e : q y with
        | true => rw [h y e, if_pos rfl, if_pos rfl]; exact Nat.succ_le_succ ih
        | false =>
          rw [if_neg (by simp)]
          split
          · exact Nat.le_succ_of_le ih
          · exact ih
    rw [List.filter_cons, List.filter_cons]
    rcases List.mem_cons.mp hx with rfl | hx
    · rw [h1, h2, if_neg (by simp), if_pos rfl]
      exact Nat.lt_succ_of_le (le l)
    · have ih := filter_lt h h1 h2 hx
      cases e : q y with
      | true => rw [h y e, if_pos rfl, if_pos rfl]; exact Nat.succ_lt_succ ih
      | false =>
        rw [if_neg (by simp)]
        split
        · exact Nat.lt_succ_of_lt ih
        · exact ih
/-- how many corners are not among these -/
def cnt (b : Cr) (h : List Cr) : Nat := ((corners b).filter fun c => !memB c h).length
theorem cnt_lt {h h' : List Cr} (s : ∀ c ∈ h, c ∈ h') {x : Cr} (hx : onb b x) (h1 : x ∉ h) (h2 : x ∈ h') : cnt b h' < cnt b h :=
  filter_lt (fun c z => by
    cases e : memB c h with
    | false => rfl
    | true => rw [memB_of (s c (memB_iff.mp e))] at z; cases z) (x := x) (by rw [memB_no h1]; rfl) (by rw [memB_of h2]; rfl) (corners_mem.mpr hx)
theorem cnt_eq {h h' : List Cr} (s : ∀ c, c ∈ h ↔ c ∈ h') : cnt b h = cnt b h' := by
  unfold cnt
  congr 1
  refine List.filter_congr fun c _ => ?_
  unfold memB
  rw [decide_eq_decide.mpr (s c)]
theorem forB_run {σ : Type} {f : Int → σ → R Er (σ ⊕ σ)} (Iv : σ → Prop) (μ : σ → Nat) (stop : σ → Prop) (hf : ∀ k s, Iv s → wp (f k s) fun r => match r with | .inl s' => Iv s' ∧ μ s' < μ s | .inr s' => Iv s' ∧ stop s') : ∀ (L : List Int) (s : σ), Iv s → μ s < L.length → wp (forB f L s) fun s => Iv s ∧ stop s
  | [], s, _, h => absurd h (Nat.not_lt_zero _)
  | k :: L, s, h0, hl => by
    obtain ⟨r, e, hr⟩ := hf k s h0
    show wp ((f k s).bind _) _
    rw [e]
    rw [List.length_cons] at hl
    cases r with
    | inl s' => exact forB_run Iv μ stop hf L s' hr.1 (by have := hr.2; omega)
    | inr s' => exact wp_ok.mpr hr
theorem whileS_run {σ : Type} {c : σ → R Er Bool} {f : σ → R Er σ} (Iv : σ → Prop) (μ : σ → Nat) (t : σ → Bool) (hc : ∀ s, Iv s → c s = .ok (t s)) (hf : ∀ s, Iv s → t s = true → wp (f s) fun s' => Iv s' ∧ μ s' < μ s) : ∀ (n : Nat) (s : σ), Iv s → μ s < n → wp (whileS c f n s) fun s => Iv s ∧ t s = false
  | 0, s, _, h => absurd h (Nat.not_lt_zero _)
  | n + 1, s, h0, hl => by
    unfold whileS
    rw [hc s h0, bo]
    cases e : t s with
    | false => rw [if_neg (by simp)]; exact wp_ok.mpr ⟨h0, e⟩
    | true =>
      rw [if_pos rfl, wp_bind]
      exact wp.mono (hf s h0 e) fun s' hs' => whileS_run Iv μ t hc hf n s' hs'.1 (by have := hs'.2; omega)
theorem wp_forSd {α σ : Type} {f : α → σ → R Er σ} (Iv : σ → Prop) (Ex : σ → σ → Prop) (Dn : α → σ → Prop) (rf : ∀ s, Ex s s) (tr : ∀ s t u, Ex s t → Ex t u → Ex s u) (stab : ∀ x s t, Dn x s → Ex s t → Dn x t) : ∀ (L : List α) (s : σ), Iv s → (∀ x ∈ L, ∀ s, Iv s → wp (f x s) fun t => Iv t ∧ Ex s t ∧ Dn x t) → wp (forS f L s) fun t => Iv t ∧ Ex s t ∧ ∀ x ∈ L, Dn x t
  | [], s, h, _ => wp_ok.mpr ⟨h, rf s, fun _ h => absurd h List.not_mem_nil⟩
  | x :: L, s, h, hf => by
    obtain ⟨t, e, h1, h2, h3⟩ := hf x List.mem_cons_self s h
    show wp ((f x s).bind _) _
    rw [e]
    refine wp.mono (wp_forSd Iv Ex Dn rf tr stab L t h1 fun y hy => hf y (List.mem_cons_of_mem _ hy)) fun u ⟨u1, u2, u3⟩ => ⟨u1, tr _ _ _ h2 u2, fun y hy => ?_⟩
    rcases List.mem_cons.mp hy with rfl | hy
    · exact stab _ _ _ h3 u2
    · exact u3 y hy
theorem popV_ok {α : Type} {l : List α} (h : l ≠ []) : (rPopV l : R Er α) = .ok (l.getLast h) ∧ l = l.dropLast ++ [l.getLast h] := by
  refine ⟨?_, (List.dropLast_concat_getLast h).symm⟩
  unfold rPopV
  rw [List.getLast?_eq_some_getLast h]
structure Lw (d : Dc) (C : List Cr) (s : List Cr × List Cr) : Prop where
  n : s.1.Nodup
  h : ∀ c ∈ s.1, Cl d C c
  w : ∀ c ∈ s.2, Cl d C c
  c : ∀ c ∈ C, c ∈ s.1 ∨ c ∈ s.2
  l : ∀ p ∈ s.1, ∀ q ∈ s.1, ∀ c ∈ line d p q, c ∈ s.1 ∨ c ∈ s.2
theorem closure_ok (h1 : 0 ≤ b.1) (h2 : b.1 ≤ 8) (h3 : 0 ≤ b.2) (h4 : b.2 ≤ 8) (hB : Bd b) {d : Dc} (hd : Pln b d) {C : List Cr} (hC : ∀ x ∈ C, onb b x) (hn : C.length ≤ 60) : wp (m_closure d C) fun S => IsS d C S := by
  have hcl := hB.len h1 h3
  have hcn : ∀ h : List Cr, cnt b h ≤ 18 := fun h => Nat.le_trans (List.length_filter_le ..) hcl
  unfold m_closure
  simp only [wp_bind, wp_ok]
  refine wp_rng (by omega) (by omega) (by omega) (by omega) ?_
  refine wp.mono (forB_run (fun s => Lw d C s ∧ s.2.length + cnt b (s.1 ++ s.2) ≤ 100) (fun s => s.2.length + cnt b (s.1 ++ s.2)) (fun s => s.2 = []) (fun k s ⟨I, hm⟩ => ?_) (rng 0 2000) ([], C) ⟨⟨List.nodup_nil, fun _ h => absurd h List.not_mem_nil, fun c h => .base h, fun c h => .inr h, fun _ h => absurd h List.not_mem_nil⟩, by have := hcn ([] ++ C); show C.length + cnt b ([] ++ C) ≤ 100; omega⟩ (by rw [rng_len]; have := hcn ([] ++ C); show C.length + cnt b ([] ++ C) < _; omega)) fun s ⟨⟨I, _⟩, st⟩ => ?_
  · refine wp_ite.mpr ⟨fun z => wp_ok.mpr ⟨⟨I, hm⟩, ?_⟩, fun z => ?_⟩
    · have z : (s.2.length : Int) = 0 := of_decide_eq_true z
      exact List.eq_nil_of_length_eq_zero (show s.2.length = 0 by omega)
    · have hne : s.2 ≠ [] := fun y => z (decide_eq_true (by rw [y]; rfl))
      obtain ⟨p1, p2⟩ := popV_ok hne
      generalize s.2.getLast hne = x at p1 p2
      generalize hW : s.2.dropLast = W at p2
      have hx : Cl d C x := I.w x (by rw [p2]; exact List.mem_append_right _ List.mem_cons_self)
      have ox := hx.on hC
      have mW : ∀ c, c ∈ s.2 ↔ c ∈ W ∨ c = x := fun c => by rw [p2, List.mem_append, List.mem_singleton]
      have lW : s.2.length = W.length + 1 := by rw [p2, List.length_append, List.length_singleton]
      rw [p1, wp_bind, wp_ok]
      refine wp_ite.mpr ⟨fun y => ?_, fun y => ?_⟩
      · have y : x ∉ s.1 := fun z => by rw [memB_of z] at y; cases y
        have hhl := List.Nodup.length_le_of_subset I.n (l₂ := corners b) fun c hc => corners_mem.mpr ((I.h c hc).on hC)
        rw [wp_bind]
        refine wp_app (by omega) ?_
        have mh : ∀ c, c ∈ s.1 ++ [x] ↔ c ∈ s.1 ∨ c = x := fun c => by rw [List.mem_append, List.mem_singleton]
        have hh : ∀ c ∈ s.1 ++ [x], Cl d C c := fun c hc => ((mh c).mp hc).elim (I.h c) fun e => by rw [e]; exact hx
        have e0 : cnt b (s.1 ++ [x] ++ W) = cnt b (s.1 ++ s.2) := cnt_eq fun c => by
          rw [List.mem_append, mh, List.mem_append, mW]
          constructor
          · rintro ((h | h) | h)
            · exact .inl h
            · exact .inr (.inr h)
            · exact .inr (.inl h)
          · rintro (h | h | h)
            · exact .inl (.inl h)
            · exact .inr h
            · exact .inl (.inr h)
        have hnd : (s.1 ++ [x]).Nodup := List.nodup_append.mpr ⟨I.n, List.nodup_cons.mpr ⟨List.not_mem_nil, List.nodup_nil⟩, fun c hc z hz e => by
          rw [List.mem_singleton.mp hz] at e
          rw [e] at hc
          exact y hc⟩
        generalize s.1 ++ [x] = h' at mh hh e0 hnd
        rw [wp_bind]
        refine wp.mono (wp_forSd (fun V : List Cr => (∀ c ∈ V, Cl d C c) ∧ V.length + cnt b (h' ++ V) ≤ W.length + cnt b (h' ++ W)) (fun V V' => ∀ c ∈ V, c ∈ V') (fun o V => ∀ c ∈ line d x o, c ∈ h' ∨ c ∈ V) (fun _ _ h => h) (fun _ _ _ h h' c hc => h' c (h c hc)) (fun o V V' h e c hc => (h c hc).imp_right (e c)) h' W ⟨fun c hc => I.w c ((mW c).mpr (.inl hc)), Nat.le_refl _⟩ fun o ho V ⟨v1, v2⟩ => ?_) fun V ⟨⟨v1, v2⟩, v3, v4⟩ => wp_ok.mpr ?_
        · rw [line_ok h2 h4 hd ox ((hh o ho).on hC)]
          simp only [bo]
          rw [bindok]
          refine wp.mono (wp_forSd (fun V : List Cr => (∀ c ∈ V, Cl d C c) ∧ V.length + cnt b (h' ++ V) ≤ W.length + cnt b (h' ++ W)) (fun V V' => ∀ c ∈ V, c ∈ V') (fun c V => c ∈ h' ∨ c ∈ V) (fun _ _ h => h) (fun _ _ _ h h' c hc => h' c (h c hc)) (fun c V V' h e => h.imp_right (e c)) (line d x o) V ⟨v1, v2⟩ fun c hc V ⟨v1, v2⟩ => ?_) fun V' ⟨a1, a2, a3⟩ => ⟨a1, a2, a3⟩
          have clc : Cl d C c := .step hx (hh o ho) hc
          refine wp_ite.mpr ⟨fun q => ?_, fun q => wp_ok.mpr ⟨⟨v1, v2⟩, fun _ h => h, ?_⟩⟩
          · have q1 : c ∉ h' := fun z => by rw [memB_of z] at q; cases q
            have q2 : c ∉ V := fun z => by rw [memB_of z, Bool.not_true, Bool.and_false] at q; cases q
            rw [wp_bind]
            have lt := cnt_lt (b := b) (h := h' ++ V) (h' := h' ++ (V ++ [c])) (fun y hy => by
              rcases List.mem_append.mp hy with z | z
              · exact List.mem_append_left _ z
              · exact List.mem_append_right _ (List.mem_append_left _ z)) (clc.on hC) (fun z => (List.mem_append.mp z).elim q1 q2) (List.mem_append_right _ (List.mem_append_right _ List.mem_cons_self))
            refine wp_app (by omega) (wp_ok.mpr ⟨⟨fun y hy => ?_, ?_⟩, fun y hy => List.mem_append_left _ hy, .inr (List.mem_append_right _ List.mem_cons_self)⟩)
            · rcases List.mem_append.mp hy with z | z
              · exact v1 y z
              · rw [List.mem_singleton.mp z]; exact clc
            · rw [List.length_append, List.length_singleton]; omega
          · apply Classical.byContradiction
            intro z
            rw [not_or] at z
            exact q (by rw [memB_no z.1, memB_no z.2]; rfl)
        · have v2 : V.length + cnt b (h' ++ V) ≤ W.length + cnt b (s.1 ++ s.2) := by rw [← e0]; exact v2
          refine ⟨⟨⟨?_, hh, v1, fun c hc => ?_, fun p hp q hq c hc => ?_⟩, ?_⟩, ?_⟩
          · exact hnd
          · rcases I.c c hc with z | z
            · exact .inl ((mh c).mpr (.inl z))
            · rcases (mW c).mp z with z | z
              · exact .inr (v3 c z)
              · exact .inl ((mh c).mpr (.inr z))
          · rcases (mh p).mp hp with zp | zp
            · rcases (mh q).mp hq with zq | zq
              · rcases I.l p zp q zq c hc with z | z
                · exact .inl ((mh c).mpr (.inl z))
                · rcases (mW c).mp z with z | z
                  · exact .inr (v3 c z)
                  · exact .inl ((mh c).mpr (.inr z))
              · rw [zq] at hc
                exact v4 p hp c (line_sym hd ((hh p hp).on hC) ox hc)
            · rw [zp] at hc
              exact v4 q hq c hc
          · show V.length + cnt b (h' ++ V) ≤ 100
            omega
          · show V.length + cnt b (h' ++ V) < s.2.length + cnt b (s.1 ++ s.2)
            omega
      · have y : x ∈ s.1 := by
          cases e : memB x s.1 with
          | true => exact memB_iff.mp e
          | false => exact absurd (by rw [e]; rfl) y
        have e0 : cnt b (s.1 ++ W) = cnt b (s.1 ++ s.2) := cnt_eq fun c => by
          rw [List.mem_append, List.mem_append, mW]
          exact ⟨fun h => h.imp_right .inl, fun h => h.elim .inl fun h => h.elim .inr fun e => .inl (by rw [e]; exact y)⟩
        refine wp_ok.mpr ⟨⟨⟨I.n, I.h, fun c hc => I.w c ((mW c).mpr (.inl hc)), fun c hc => ?_, fun p hp q hq c hc => ?_⟩, ?_⟩, ?_⟩
        · exact (I.c c hc).elim .inl fun z => ((mW c).mp z).elim .inr fun e => .inl (by rw [e]; exact y)
        · exact (I.l p hp q hq c hc).elim .inl fun z => ((mW c).mp z).elim .inr fun e => .inl (by rw [e]; exact y)
        · show W.length + cnt b (s.1 ++ W) ≤ 100
          omega
        · show W.length + cnt b (s.1 ++ W) < s.2.length + cnt b (s.1 ++ s.2)
          omega
  · obtain ⟨held, waiting⟩ := s
    simp only at st
    subst st
    have mm : ∀ c, c ∈ held ↔ Cl d C c := fun c => ⟨I.h c, fun h => h.min (fun c hc => (I.c c hc).resolve_right List.not_mem_nil) fun p hp q hq c hc => (I.l p hp q hq c hc).resolve_right List.not_mem_nil⟩
    have pm : (sortD (fun (a : Cr) => (PyData.tuple [(PyData.int a.1), (PyData.int a.2)])) held).Perm held := List.mergeSort_perm _ _
    refine ⟨fun c => pm.mem_iff.trans (mm c), pm.nodup_iff.mpr I.n, ?_⟩
    refine List.Pairwise.imp_of_mem (fun {p q} hp hq h => ?_) (sortD_pw (fun (a : Cr) => (PyData.tuple [(PyData.int a.1), (PyData.int a.2)])) held)
    have op := ((mm p).mp (pm.mem_iff.mp hp)).on hC
    have oq := ((mm q).mp (pm.mem_iff.mp hq)).on hC
    obtain ⟨a1, a2, a3, a4⟩ := op
    obtain ⟨b1, b2, b3, b4⟩ := oq
    have h : PySem.W.dataLe false py2 p q = true := h
    rw [le_2] at h
    have h : ¬ LT2 q p := fun z => by rw [decide_eq_true z] at h; cases h
    unfold LT2 at h
    unfold cdC
    omega
end
theorem bindok3 {α β γ : Type} (m : R Er (α × β × γ)) : (m.bind fun s => R.ok (s.1, s.2.1, s.2.2)) = m := bindok m
section
variable {b : Cr}
theorem drv_snoc {d : Dc} {x : E3} : ∀ (E : List E3) (s : List Cr), drv d E s = true → x.2.1 ∈ s ++ E.map (fun e => e.1) → x.2.2 ∈ s ++ E.map (fun e => e.1) → x.1 ∈ line d x.2.1 x.2.2 → drv d (E ++ [x]) s = true
  | [], s, _, h1, h2, h3 => by
    rw [List.map_nil, List.append_nil] at h1 h2
    show drv d [x] s = true
    unfold drv
    rw [memB_of h1, memB_of h2, memB_of h3]
    rfl
  | e :: E, s, h, h1, h2, h3 => by
    rw [List.cons_append]
    unfold drv at h ⊢
    split at h
    · next c =>
      rw [if_pos c]
      split at h
      · next c2 =>
        rw [if_pos c2]
        refine drv_snoc E (s ++ [e.1]) h ?_ ?_ h3
        · rwa [List.append_assoc, List.singleton_append, ← List.map_cons (f := fun e : E3 => e.1)]
        · rwa [List.append_assoc, List.singleton_append, ← List.map_cons (f := fun e : E3 => e.1)]
      · cases h
    · cases h
/-- the state of the program's search: entries, known, held, waiting -/
structure Pg (b : Cr) (T : Dc) (C : List Cr) (held : List Cr) (s : List E3 × List Cr × List Cr) : Prop where
  k : s.2.1 = C ++ s.1.map (fun e => e.1)
  m : ∀ c, c ∈ s.2.1 ↔ c ∈ held ∨ c ∈ s.2.2
  n : (held ++ s.2.2).Nodup
  c : ∀ c ∈ s.2.1, Cl T C c
  v : drv T s.1 C = true
  f : (s.1.map (fun e => e.1)).Nodup
  e : ∀ e ∈ s.1, e.1 ∉ C
theorem Pg.len {T : Dc} {C held : List Cr} {s : List E3 × List Cr × List Cr} (h : Pg b T C held s) (hC : ∀ c ∈ C, onb b c) : s.1.length ≤ (corners b).length ∧ s.2.2.length ≤ (corners b).length ∧ held.length ≤ (corners b).length := by
  have o : ∀ c ∈ s.2.1, onb b c := fun c hc => (h.c c hc).on hC
  have l1 := List.Nodup.length_le_of_subset h.f (l₂ := corners b) fun c hc => corners_mem.mpr (o c (by rw [h.k]; exact List.mem_append_right _ hc))
  have l2 := List.Nodup.length_le_of_subset h.n (l₂ := corners b) fun c hc => corners_mem.mpr (o c ((h.m c).mpr (List.mem_append.mp hc)))
  rw [List.length_map] at l1
  rw [List.length_append] at l2
  omega
theorem derivation_ok (h1 : 0 ≤ b.1) (h2 : b.1 ≤ 8) (h3 : 0 ≤ b.2) (h4 : b.2 ≤ 8) (hB : Bd b) {T : Dc} {r f : PySem.Str} (hT : Pln b T) {C : List Cr} (hC : ∀ x ∈ C, onb b x) (hn : C.length ≤ 40) :
    wp (m_derivation (((((), b), r), f), T) C) fun E => drv T E C = true ∧ (∀ c, c ∈ C ++ E.map (fun e => e.1) ↔ Cl T C c) ∧ (E.map (fun e => e.1)).Nodup ∧ (∀ e ∈ E, e.1 ∉ C) ∧ E.length ≤ 18 := by
  have hcl := hB.len h1 h3
  have hin : inC C = true := List.all_eq_true.mpr fun c hc => by
    obtain ⟨a1, a2, a3, a4⟩ := hC c hc
    exact decide_eq_true (by omega)
  have hms : ∀ c, c ∈ srtC C ↔ c ∈ C := fun c => (srtC_perm C).mem_iff.trans mem_dd
  unfold m_derivation
  simp only [bo]
  rw [show (rSetC C : R Er (List Cr)) = .ok C from by unfold rSetC; rw [if_pos (by omega)]]
  simp only [bo]
  rw [show (rSortC C : R Er (List Cr)) = .ok (srtC C) from by unfold rSortC; rw [if_pos hin]]
  simp only [bo, wp_bind, wp_ok]
  refine wp.mono (whileS_run (fun s : List E3 × List Cr × List Cr × List Cr => Pg b T C s.2.2.1 (s.1, s.2.1, s.2.2.2) ∧ ∀ p ∈ s.2.2.1, ∀ q ∈ s.2.2.1, ∀ c ∈ line T p q, c ∈ s.2.1) (fun s => cnt b s.2.2.1) (fun s => !s.2.2.2.isEmpty) (fun s _ => rfl) (fun s ⟨I, hl⟩ ht => ?_) fuel ([], C, [], srtC C)
    ⟨⟨by simp, fun c => by rw [hms]; simp, by simpa using (srtC_perm C).nodup_iff.mpr (nd_dd C), fun c hc => .base hc, rfl, List.nodup_nil, fun _ h => absurd h List.not_mem_nil⟩, fun _ h => absurd h List.not_mem_nil⟩ (by have : cnt b ([] : List Cr) ≤ 18 := Nat.le_trans (List.length_filter_le ..) hcl; unfold fuel; show cnt b ([] : List Cr) < _; omega)) fun s ⟨⟨I, hl⟩, st⟩ => ?_
  · obtain ⟨E, known, held, waiting⟩ := s
    simp only at I hl ht ⊢
    have hne : waiting ≠ [] := fun y => by rw [y] at ht; cases ht
    obtain ⟨p1, p2⟩ := popV_ok hne
    generalize waiting.getLast hne = x at p1 p2
    generalize waiting.dropLast = W at p2
    subst p2
    have hkx : x ∈ known := (I.m x).mpr (.inr (List.mem_append_right _ List.mem_cons_self))
    have hx := I.c x hkx
    have ox := hx.on hC
    have hxh : x ∉ held := fun z => (List.nodup_append.mp I.n).2.2 x z x (List.mem_append_right _ List.mem_cons_self) rfl
    have hhl := (I.len hC).2.2
    rw [p1, wp_bind, wp_ok, wp_bind]
    have hh : ∀ c ∈ held, Cl T C c ∧ c ∈ known := fun c hc => ⟨I.c c ((I.m c).mpr (.inl hc)), (I.m c).mpr (.inl hc)⟩
    have J0 : Pg b T C (held ++ [x]) (E, known, W) := by
      refine ⟨I.k, fun c => (I.m c).trans ?_, ?_, I.c, I.v, I.f, I.e⟩
      · rw [List.mem_append, List.mem_append, List.mem_singleton]
        constructor
        · rintro (h | h | h)
          · exact .inl (.inl h)
          · exact .inr h
          · exact .inl (.inr h)
        · rintro ((h | h) | h)
          · exact .inl h
          · exact .inr (.inr h)
          · exact .inr (.inl h)
      · have pm : (held ++ (W ++ [x])).Perm (held ++ [x] ++ W) := by
          rw [List.append_assoc]
          exact (List.Perm.refl held).append List.perm_append_comm
        exact pm.nodup_iff.mp I.n
    refine wp.mono (wp_forSd (fun s : List E3 × List Cr × List Cr => Pg b T C (held ++ [x]) s) (fun s s' => ∀ c ∈ s.2.1, c ∈ s'.2.1) (fun o s => ∀ c ∈ line T x o, c ∈ s.2.1) (fun _ _ h => h) (fun _ _ _ h h' c hc => h' c (h c hc)) (fun o s s' h e c hc => e c (h c hc)) held (E, known, W) J0 fun o ho s J => ?_) fun s ⟨J, ex, dn⟩ => ?_
    · have co := (hh o ho).1
      rw [pline_ok h2 h4 hT ox (co.on hC)]
      simp only [bo]
      rw [bindok3]
      refine wp.mono (wp_forSd (fun s : List E3 × List Cr × List Cr => Pg b T C (held ++ [x]) s) (fun s s' => ∀ c ∈ s.2.1, c ∈ s'.2.1) (fun c s => c ∈ s.2.1) (fun _ _ h => h) (fun _ _ _ h h' c hc => h' c (h c hc)) (fun c s s' h e => e c h) (line T x o) s J fun c hc s J => ?_) fun s hs => hs
      have clc : Cl T C c := .step hx co hc
      have ll := J.len hC
      have lk : s.2.1.length ≤ 58 := by rw [J.k, List.length_append, List.length_map]; omega
      refine wp_ite.mpr ⟨fun q => ?_, fun q => wp_ok.mpr ⟨J, fun _ h => h, ?_⟩⟩
      · have q1 : c ∉ s.2.1 := fun z => by rw [memB_of z] at q; cases q
        rw [show (rSadd s.2.1 c : R Er Cr) = .ok c from by unfold rSadd; rw [if_pos (by omega)]]
        simp only [bo, wp_bind]
        have hxk : x ∈ s.2.1 := (J.m x).mpr (.inl (List.mem_append_right _ List.mem_cons_self))
        have hok : o ∈ s.2.1 := (J.m o).mpr (.inl (List.mem_append_left _ ho))
        have q2 : c ∉ C := fun z => q1 (by rw [J.k]; exact List.mem_append_left _ z)
        refine wp_app (by omega) (wp_app (by omega) (wp_ok.mpr ⟨⟨?_, fun y => ?_, ?_, fun y hy => ?_, ?_, ?_, fun e he => ?_⟩, fun y hy => List.mem_append_left _ hy, List.mem_append_right _ List.mem_cons_self⟩))
        · show s.2.1 ++ [c] = C ++ (s.1 ++ [(c, x, o)]).map (fun e => e.1)
          rw [J.k, List.map_append, List.append_assoc]
          rfl
        · show y ∈ s.2.1 ++ [c] ↔ y ∈ held ++ [x] ∨ y ∈ s.2.2 ++ [c]
          rw [List.mem_append, J.m, List.mem_append (t := [c]), or_assoc]
        · show (held ++ [x] ++ (s.2.2 ++ [c])).Nodup
          rw [← List.append_assoc]
          exact List.nodup_append.mpr ⟨J.n, List.nodup_cons.mpr ⟨List.not_mem_nil, List.nodup_nil⟩, fun y hy z hz e => by
            rw [List.mem_singleton.mp hz] at e
            rw [e] at hy
            exact q1 ((J.m c).mpr (List.mem_append.mp hy))⟩
        · rcases List.mem_append.mp hy with z | z
          · exact J.c y z
          · rw [List.mem_singleton.mp z]; exact clc
        · refine drv_snoc s.1 C J.v ?_ ?_ hc
          · rw [← J.k]; exact hxk
          · rw [← J.k]; exact hok
        · show ((s.1 ++ [(c, x, o)]).map (fun e => e.1)).Nodup
          rw [List.map_append]
          exact List.nodup_append.mpr ⟨J.f, List.nodup_cons.mpr ⟨List.not_mem_nil, List.nodup_nil⟩, fun y hy z hz e => by
            rw [List.mem_singleton.mp hz] at e
            rw [e] at hy
            exact q1 (by rw [J.k]; exact List.mem_append_right _ hy)⟩
        · rcases List.mem_append.mp he with z | z
          · exact J.e e z
          · rw [List.mem_singleton.mp z]; exact q2
      · cases e : memB c s.2.1 with
        | true => exact memB_iff.mp e
        | false => exact absurd (by rw [e]; rfl) q
    · simp only [wp_bind]
      refine wp_app (by omega) (wp_ok.mpr ⟨⟨J, fun p hp q hq c hc => ?_⟩, ?_⟩)
      · have hxk : x ∈ s.2.1 := (J.m x).mpr (.inl (List.mem_append_right _ List.mem_cons_self))
        rcases List.mem_append.mp hp with zp | zp
        · rcases List.mem_append.mp hq with zq | zq
          · exact ex c (hl p zp q zq c hc)
          · rw [List.mem_singleton.mp zq] at hc
            exact dn p zp c (line_sym hT ((hh p zp).1.on hC) ox hc)
        · rw [List.mem_singleton.mp zp] at hc
          rcases List.mem_append.mp hq with zq | zq
          · exact dn q zq c hc
          · rw [List.mem_singleton.mp zq, line_self, List.mem_singleton] at hc
            rw [hc]
            exact hxk
      · exact cnt_lt (fun c hc => List.mem_append_left _ hc) ox hxh (List.mem_append_right _ List.mem_cons_self)
  · obtain ⟨E, known, held, waiting⟩ := s
    simp only at I hl st ⊢
    have st : waiting = [] := by
      cases waiting with
      | nil => rfl
      | cons a l => cases st
    subst st
    have hk : ∀ c, c ∈ known ↔ c ∈ held := fun c => (I.m c).trans ⟨fun h => h.resolve_right List.not_mem_nil, .inl⟩
    have ll := I.len hC
    refine ⟨I.v, fun c => ?_, I.f, I.e, by have := ll.1; simp only at this; omega⟩
    have e : known = C ++ E.map (fun e => e.1) := I.k
    rw [← e]
    exact ⟨I.c c, fun h => h.min (fun c hc => by rw [e]; exact List.mem_append_left _ hc) fun p hp q hq c hc => hl p ((hk p).mp hp) q ((hk q).mp hq) c hc⟩
end
section
variable {b : Cr}
theorem open_row (h2 : b.1 ≤ 8) (h4 : b.2 ≤ 8) {d : Dc} (hd : Pln b d) {row : List Cr} (hrow : ∀ x ∈ row, onb b x) (hl : row.length ≤ 1000) : m_open d row = .ok (opn d row row) := by
  unfold m_open
  rw [rRng_ok (by omega) (by omega) (by omega) (by omega)]
  simp only [bo]
  rw [forX_fs (fun k => (cut row (some (k + 1)) none).findSome? fun o => ((line d (cg row k) o).find? fun c => !memB c row).map fun c => (cg row k, o, c)) (fun e => some e)]
  · unfold opn
    cases (rng 0 (row.length : Int)).findSome? fun k => (cut row (some (k + 1)) none).findSome? fun o => ((line d (cg row k) o).find? fun c => !memB c row).map fun c => (cg row k, o, c) <;> rfl
  · intro k hk
    obtain ⟨k1, k2⟩ := cg_mem hk
    rw [forX_fs (fun o => ((line d (cg row k) o).find? fun c => !memB c row).map fun c => (cg row k, o, c)) (fun e => some e)]
    · cases (cut row (some (k + 1)) none).findSome? fun o => ((line d (cg row k) o).find? fun c => !memB c row).map fun c => (cg row k, o, c) <;> rfl
    · intro o ho
      rw [k2]
      simp only [bo]
      rw [line_ok h2 h4 hd (hrow _ k1) (hrow _ (cut_mem ho))]
      simp only [bo]
      rw [forX_find (fun c => !memB c row) (fun c => some (cg row k, o, c))]
      · cases (line d (cg row k) o).find? fun c => !memB c row <;> rfl
      · intro c hc
        cases memB c row <;> rfl
theorem cut_from {α : Type} (l : List α) (n : Nat) : cut l (some (n : Int)) none = l.drop n := by
  unfold cut
  have e1 : HT.sIx l.length 0 (some (n : Int)) = min n l.length := by
    show (if (n : Int) < 0 then ((n : Int) + (l.length : Int)).toNat else min (n : Int).toNat l.length) = _
    rw [if_neg (by omega), Int.toNat_natCast]
  have e2 : HT.sIx l.length l.length none = l.length := rfl
  rw [e1, e2, List.take_of_length_le (by rw [List.length_drop]; omega)]
  by_cases c : n ≤ l.length
  · rw [Nat.min_eq_left c]
  · rw [Nat.min_eq_right (by omega), List.drop_of_length_le (Nat.le_refl _), List.drop_of_length_le (by omega)]
theorem cut_to {α : Type} (l : List α) {n : Nat} (h : n ≤ l.length) : cut l none (some (n : Int)) = l.take n := by
  unfold cut
  have e1 : HT.sIx l.length 0 none = 0 := rfl
  have e2 : HT.sIx l.length l.length (some (n : Int)) = n := by
    show (if (n : Int) < 0 then ((n : Int) + (l.length : Int)).toNat else min (n : Int).toNat l.length) = _
    rw [if_neg (by omega), Int.toNat_natCast, Nat.min_eq_left h]
  rw [e1, e2, Nat.sub_zero, List.drop_zero]
theorem opn_clo {d : Dc} (hd : Pln b d) {row t : List Cr} (hr : ∀ x ∈ row, onb b x) (ht : ∀ c, c ∈ t ↔ c ∈ row) : opn d row t = none ↔ Clo d t := by
  constructor
  · intro h
    have key : ∀ i j : Nat, i < j → ∀ (hj : j < row.length) (hi : i < row.length), ∀ c ∈ line d row[i] row[j], c ∈ t := fun i j hij hj hi c hc => by
      unfold opn at h
      have h1 := List.findSome?_eq_none_iff.mp h (i : Int) (rng_mem.mpr (by omega))
      rw [show ((i : Int) + 1) = ((i + 1 : Nat) : Int) by omega, cut_from] at h1
      have h2 := List.findSome?_eq_none_iff.mp h1 row[j] (by
        rw [show row[j] = (row.drop (i + 1))[j - (i + 1)]'(by rw [List.length_drop]; omega) from by rw [List.getElem_drop]; congr 1; omega]
        exact List.getElem_mem _)
      have eg : cg row (i : Int) = row[i] := by
        unfold cg
        rw [Int.toNat_natCast, List.getD_eq_getElem?_getD, List.getElem?_eq_getElem hi]
        rfl
      rw [eg, Option.map_eq_none_iff, List.find?_eq_none] at h2
      have h3 := h2 c hc
      cases e : memB c t with
      | true => exact memB_iff.mp e
      | false => exact absurd (by rw [e]; rfl) h3
    intro p hp q hq c hc
    obtain ⟨i, hi, rfl⟩ := List.getElem_of_mem ((ht p).mp hp)
    obtain ⟨j, hj, rfl⟩ := List.getElem_of_mem ((ht q).mp hq)
    rcases Nat.lt_trichotomy i j with z | z | z
    · exact key i j z hj hi c hc
    · subst z
      rw [line_self, List.mem_singleton] at hc
      rw [hc]
      exact hp
    · exact key j i z hi hj c (line_sym hd (hr _ (List.getElem_mem hi)) (hr _ (List.getElem_mem hj)) hc)
  · intro h
    unfold opn
    refine List.findSome?_eq_none_iff.mpr fun k hk => List.findSome?_eq_none_iff.mpr fun o ho => ?_
    rw [Option.map_eq_none_iff, List.find?_eq_none]
    intro c hc
    rw [memB_of (h _ ((ht _).mpr (cg_mem hk).1) o ((ht o).mpr (cut_mem ho)) c hc)]
    simp
theorem is_row_same (L : List Cr) (hl : L.length ≤ 1000) : m_is_row L L = .ok true := by
  have ic : ∀ c : Cr, m_is_corner c = .ok true := fun _ => rfl
  unfold m_is_row
  rw [if_neg (by simp), rRng_ok (by omega) (by omega) (by omega) (by omega)]
  simp only [bo]
  rw [forX_any (fun _ => false) false]
  · rw [List.any_eq_false.mpr (by simp)]
    rfl
  · intro k hk
    have hk := rng_mem.mp hk
    rw [rIx_ok hk.1 hk.2]
    simp only [bo, ic, Bool.not_true, Bool.false_eq_true, if_false, decide_true]
theorem rd_loop {d : Dc} {S : List Cr} {f : E3 → List Cr → R Er (List Cr ⊕ Bool)} (hf : ∀ e s, (∀ x ∈ s, onb b x) → s.length < 100 → e.1 ∉ s → e.1 ∈ S → e.2.1 ∈ s → e.2.2 ∈ s → e.1 ∈ line d e.2.1 e.2.2 → f e s = .ok (.inl (s ++ [e.1]))) :
    ∀ (E : List E3) (s : List Cr), (∀ x ∈ s, onb b x) → s.length + E.length ≤ 100 → drv d E s = true → (E.map (fun e => e.1)).Nodup → (∀ e ∈ E, e.1 ∉ s ∧ e.1 ∈ S) → ∃ s', forX f E s = .ok (.inl s')
  | [], s, _, _, _, _, _ => ⟨s, rfl⟩
  | e :: E, s, hs, hn, hv, hf', he => by
    rw [List.length_cons] at hn
    rw [List.map_cons, List.nodup_cons] at hf'
    unfold drv at hv
    split at hv
    · next c =>
      rw [Bool.and_eq_true] at c
      split at hv
      · next c2 =>
        have c2 := memB_iff.mp c2
        have m1 := memB_iff.mp c.1
        have m2 := memB_iff.mp c.2
        obtain ⟨e1, e2⟩ := he e List.mem_cons_self
        show ∃ s', ((f e s).bind _) = _
        rw [hf e s hs (by omega) e1 e2 m1 m2 c2]
        exact rd_loop hf E (s ++ [e.1]) (on_snoc hs (line_onb (hs _ m1) (hs _ m2) _ c2)) (by rw [List.length_append, List.length_singleton]; omega) hv hf'.2 fun x hx => ⟨fun z => by
          rcases List.mem_append.mp z with y | y
          · exact (he x (List.mem_cons_of_mem _ hx)).1 y
          · exact hf'.1 (List.mem_map.mpr ⟨x, hx, List.mem_singleton.mp y⟩), (he x (List.mem_cons_of_mem _ hx)).2⟩
      · cases hv
    · cases hv
theorem right_ok (h2 : b.1 ≤ 8) (h4 : b.2 ≤ 8) {d : Dc} (hd : Pln b d) {C S : List Cr} {E : List E3} (hC : ∀ x ∈ C, onb b x) (hn : C.length ≤ 40) (hS : IsS d C S) (hm : ∀ c, c ∈ C ++ E.map (fun e => e.1) ↔ Cl d C c) (hv : drv d E C = true) (hf : (E.map (fun e => e.1)).Nodup) (he : ∀ e ∈ E, e.1 ∉ C) (hE : E.length ≤ 18) (hSl : S.length ≤ 100) : m_is_right_derivation d C S E = .ok true := by
  have ic : ∀ c : Cr, m_is_corner c = .ok true := fun _ => rfl
  have hlen : E.length = (S.filter fun c => !memB c C).length := by
    have pm : (E.map (fun e => e.1)).Perm (S.filter fun c => !memB c C) := (List.perm_ext_iff_of_nodup hf (hS.n.filter _)).mpr fun c => by
      rw [List.mem_filter, hS.m]
      constructor
      · intro h
        obtain ⟨e, h1, rfl⟩ := List.mem_map.mp h
        exact ⟨(hm _).mp (List.mem_append_right _ h), by rw [memB_no (he e h1)]; rfl⟩
      · rintro ⟨h1, h2⟩
        rcases List.mem_append.mp ((hm c).mpr h1) with z | z
        · rw [memB_of z] at h2; cases h2
        · exact z
    rw [← pm.length_eq, List.length_map]
  unfold m_is_right_derivation
  rw [if_neg (by simp), show (lcR (fun (corner_1 : Cr) => (R.ok (!memB corner_1 C))) (fun (corner_1 : Cr) => (R.ok corner_1)) S : R Er (List Cr)) = .ok (S.filter fun c => !memB c C) from wp.eq (wp_lc (fun c => !memB c C) (fun c => c) (by omega) (fun _ _ => rfl) (fun _ _ _ => rfl) (by rw [List.map_id']))]
  simp only [bo]
  rw [← hlen, if_neg (by simp)]
  obtain ⟨s', h⟩ := rd_loop (b := b) (d := d) (S := S) (f := fun (entry_5 : E3) (s6 : List Cr) => if ((!true) || (!decide (((3 : Nat) : Int) = (3 : Int)))) then (R.ok (.inr false)) else
  (((((m_is_corner entry_5.1)).bind fun v7 => R.ok (!v7)).bind fun v11 => (if v11 then R.ok true else (((m_is_corner entry_5.2.1)).bind fun v8 => R.ok (!v8)).bind fun v10 => (if v10 then R.ok true else ((m_is_corner entry_5.2.2)).bind fun v9 => R.ok (!v9)))).bind fun v16 => if v16 then (R.ok (.inr false)) else
  (if ((memB entry_5.1 s6) || ((!memB entry_5.1 S) || ((!memB entry_5.2.1 s6) || (!memB entry_5.2.2 s6)))) then (R.ok (.inr false)) else
  ((((m_line d entry_5.2.1 entry_5.2.2)).bind fun v12 => R.ok (!memB entry_5.1 v12)).bind fun v15 => if v15 then (R.ok (.inr false)) else
  (((rApp s6 entry_5.1)).bind fun (c14 : Cr) =>
  R.ok (.inl (s6 ++ [c14]))))))) (fun e s hs hn n1 n2 n3 n4 n5 => by
    rw [if_neg (by simp)]
    simp only [ic, bo, Bool.not_true, Bool.false_eq_true, if_false]
    rw [memB_no n1, memB_of n2, memB_of n3, memB_of n4, if_neg (by simp), line_ok h2 h4 hd (hs _ n3) (hs _ n4)]
    simp only [bo]
    rw [memB_of n5, if_neg (by simp), show (rApp s e.1 : R Er Cr) = .ok e.1 from wp.eq (wp_app (by omega) rfl)]
    rfl) E C hC (by omega) hv hf fun e h => ⟨he e h, (hS.m _).mpr ((hm _).mp (List.mem_append_right _ (List.mem_map.mpr ⟨e, h, rfl⟩)))⟩
  rw [h]
  rfl
/-- the plane's closure -/
theorem own_ok (h1 : 0 ≤ b.1) (h2 : b.1 ≤ 8) (h3 : 0 ≤ b.2) (h4 : b.2 ≤ 8) (hB : Bd b) {d T : Dc} {r f : PySem.Str} (hd : Pln b d) (al : Alike b d T) {C S : List Cr} (hC : ∀ x ∈ C, onb b x) (hn : C.length ≤ 40) (hS : IsS d C S) :
    ∃ E, m_derivation (((((), b), r), f), T) C = .ok E ∧ drv d E C = true ∧ (∀ c, c ∈ C ++ E.map (fun e => e.1) ↔ Cl d C c) ∧ (E.map (fun e => e.1)).Nodup ∧ (∀ e ∈ E, e.1 ∉ C) ∧ E.length ≤ 18 ∧ m_closure_own (((((), b), r), f), T) C = .ok S := by
  obtain ⟨E, e0, v, m, f', e, l⟩ := derivation_ok (r := r) (f := f) h1 h2 h3 h4 hB (al.pln hd) hC hn
  have m' : ∀ c, c ∈ C ++ E.map (fun e => e.1) ↔ Cl d C c := fun c => (m c).trans (Cl.alike al hC).symm
  refine ⟨E, e0, by rw [drv_alike al E C hC]; exact v, m', f', e, l, ?_⟩
  have hin : inC (C ++ E.map (fun e => e.1)) = true := List.all_eq_true.mpr fun c hc => by
    obtain ⟨a1, a2, a3, a4⟩ := ((m' c).mp hc).on hC
    exact decide_eq_true (by omega)
  unfold m_closure_own
  rw [e0]
  simp only [bo]
  rw [show (lcR (fun (entry_2 : E3) => (R.ok true)) (fun (entry_2 : E3) => (R.ok entry_2.1)) E : R Er (List Cr)) = .ok (E.map fun e => e.1) from wp.eq (wp_lc (fun _ => true) (fun e : E3 => e.1) (by omega) (fun _ _ => rfl) (fun _ _ _ => rfl) (by rw [List.filter_eq_self.mpr fun _ _ => rfl]))]
  simp only [bo]
  rw [show (rCatL C (E.map fun e => e.1) : R Er (List Cr)) = .ok (C ++ E.map fun e => e.1) from wp.eq (wp_cat (by rw [List.length_map]; omega) rfl)]
  simp only [bo]
  rw [show (rSetC (C ++ E.map fun e => e.1) : R Er (List Cr)) = .ok (C ++ E.map fun e => e.1) from by unfold rSetC; rw [if_pos (by rw [List.length_append, List.length_map]; omega)]]
  simp only [bo]
  rw [show (rSortC (C ++ E.map fun e => e.1) : R Er (List Cr)) = .ok (srtC (C ++ E.map fun e => e.1)) from by unfold rSortC; rw [if_pos hin]]
  simp only [bo]
  congr 1
  exact (srtC_uniq hin hS.n (fun c => (hS.m c).trans (m' c).symm) hS.p).symm
theorem der_2 : m_derivation_2 = m_derivation := rfl
theorem own_2 : m_closure_own_2 = m_closure_own := rfl
theorem IsS.on {d : Dc} {C S : List Cr} (h : IsS d C S) (hC : ∀ x ∈ C, onb b x) : ∀ x ∈ S, onb b x := fun x hx => ((h.m x).mp hx).on hC
theorem IsS.len {d : Dc} {C S : List Cr} (h : IsS d C S) (hC : ∀ x ∈ C, onb b x) : S.length ≤ (corners b).length := List.Nodup.length_le_of_subset h.n fun x hx => corners_mem.mpr (h.on hC x hx)
theorem closes_ok (h1 : 0 ≤ b.1) (h2 : b.1 ≤ 8) (h3 : 0 ≤ b.2) (h4 : b.2 ≤ 8) (hB : Bd b) {d T : Dc} {r f : PySem.Str} (hd : Pln b d) (al : Alike b d T) {C S : List Cr} (hC : ∀ x ∈ C, onb b x) (hn : C.length ≤ 40) (hS : IsS d C S) : m_closes (((((), b), r), f), T) d C S = .ok true := by
  have hcl := hB.len h1 h3
  have hSl := hS.len hC
  obtain ⟨E, e0, v, m, f', e, l, ec⟩ := own_ok (r := r) (f := f) h1 h2 h3 h4 hB hd al hC hn hS
  have rt := right_ok h2 h4 hd hC hn hS m v f' e l (by omega)
  unfold m_closes
  simp only [bo]
  rw [ec]
  simp only [bo]
  rw [is_row_same S (by omega)]
  simp only [bo, Bool.not_true, Bool.false_eq_true, if_false]
  rw [show (rApp S ((0 : Int), (0 : Int)) : R Er Cr) = .ok (0, 0) from wp.eq (wp_app (by omega) rfl)]
  simp only [bo, Bool.false_eq_true, if_false, decide_true, Bool.not_true]
  rw [e0]
  simp only [bo]
  rw [rt]
  simp only [bo, Bool.not_true, Bool.false_eq_true, if_false]
  rw [is_derivation_ok h2 h4 (al.pln hd) al hC (by omega), v]
  simp only [bo, decide_true, Bool.not_true, Bool.false_eq_true, if_false]
  rw [show (rRoom E : R Er Unit) = .ok () from by unfold rRoom; rw [if_pos (by rw [sizeLine_eq]; omega)]]
  simp only [bo, Bool.false_eq_true, if_false]
  rw [der_2, e0]
  simp only [bo]
  rw [rt]
  rfl
end
section
variable {b : Cr}
theorem given_wp (h1 : 0 ≤ b.1) (h2 : b.1 ≤ 8) (h3 : 0 ≤ b.2) (h4 : b.2 ≤ 8) (hB : Bd b) {d : Dc} (hd : Pln b d) {c : Int} : wp (m_given b d c) fun C => (∀ x ∈ C, onb b x) ∧ C.length ≤ 18 := by
  have hb9 : b.1 + b.2 ≤ 9 := by
    rcases hB with h | h | h | h | h
    · omega
    all_goals rw [h]; simp
  unfold m_given
  simp only [wp_bind, wp_ok]
  refine wp_rep (by omega) (by simp) (wp_cat (by simp) ?_)
  rw [show ([(7 : Int), 8] ++ (List.replicate (6 : Int).toNat [b.1 + 1, b.2 + 1]).flatten) = [7, 8, b.1 + 1, b.2 + 1, b.1 + 1, b.2 + 1, b.1 + 1, b.2 + 1, b.1 + 1, b.2 + 1, b.1 + 1, b.2 + 1, b.1 + 1, b.2 + 1] from rfl]
  refine draws_wp (by simp; omega) (by simp) fun dd hl hdd => ?_
  refine dix hl hdd (y := 7) (by omega) rfl fun n n0 n1 => wp_rng (by omega) (by omega) (by omega) (by omega) ?_
  refine wp_map (fun (_ : Int) (s : Cr) => onb b s) (by rw [rng_len]; omega) (fun k hk => ?_) fun C hC hQ => ?_
  · have hk := rng_mem.mp hk
    have hk2 : k = 0 ∨ k = 1 ∨ k = 2 ∨ k = 3 ∨ k = 4 ∨ k = 5 := by omega
    have m2 : ∀ {P : Int → Prop}, P (2 * k) → wp (rMul (2 : Int) k : R Er Int) P := fun h => wp_mul (by left; omega) h
    simp only [wp_bind, wp_ok]
    exact m2 (dix hl hdd (y := b.1 + 1) (by omega) (by rcases hk2 with rfl | rfl | rfl | rfl | rfl | rfl <;> rfl) fun x x0 x1 => m2 (dix hl hdd (y := b.2 + 1) (by omega) (by rcases hk2 with rfl | rfl | rfl | rfl | rfl | rfl <;> rfl) fun y y0 y1 => ⟨x0, by simp only; omega, y0, by simp only; omega⟩))
  · rw [rng_len] at hC
    have o0 : ∀ x ∈ C, onb b x := fun x hx => by
      obtain ⟨i, hi, rfl⟩ := List.getElem_of_mem hx
      exact hQ i (i : Int) _ (by unfold rng; rw [List.getElem?_map, List.getElem?_range (by omega)]; simp) (List.getElem?_eq_getElem hi)
    have l0 : C.length ≤ 6 := by omega
    clear hQ hC
    refine dix hl hdd (y := 8) (by omega) rfl fun e _ _ => ?_
    refine wp.mono (P := fun v => v = true → 1 < C.length) (wp_ite.mpr ⟨fun _ => wp_ok.mpr fun z => by have := of_decide_eq_true z; omega, fun _ => wp_ok.mpr fun z => by cases z⟩) fun v hv => wp_ite.mpr ⟨fun z => ?_, fun _ => ?_⟩
    · have h1 := hv z
      have m0 := o0 C[0] (List.getElem_mem (by omega))
      have m1 := o0 C[1] (List.getElem_mem (by omega))
      simp only [wp_bind, wp_ok]
      refine wp_ix (by omega) (by omega) fun _ => wp_ix (by omega) (by omega) fun _ => ?_
      rw [show C[(0 : Int).toNat] = C[0] from rfl, show C[(1 : Int).toNat] = C[1] from rfl, line_ok h2 h4 hd m0 m1, wp_ok]
      have hc := cut_le C (some 2) (some 4)
      have hll := line_len d C[0] C[1]
      have hD : D C[0] C[1] ≤ 9 := by
        obtain ⟨a1, a2, a3, a4⟩ := m0
        obtain ⟨b1, b2, b3, b4⟩ := m1
        unfold D
        omega
      refine wp_cat (by omega) ⟨fun x hx => ?_, by rw [List.length_append]; omega⟩
      rcases List.mem_append.mp hx with q | q
      · exact line_onb m0 m1 x q
      · exact o0 x (cut_mem q)
    · rw [wp_bind, wp_bind]
      refine dix hl hdd (y := 8) (by omega) rfl fun e _ _ => wp_ok.mpr (wp_ite.mpr ⟨fun _ => ?_, fun _ => ?_⟩)
      · rw [wp_bind]
        have hc := cut_le C none (some 1)
        refine wp_rep (by omega) (by rw [show (3 : Int).toNat = 3 from rfl]; omega) (wp_ok.mpr ⟨fun x hx => ?_, ?_⟩)
        · obtain ⟨l, hl, hx⟩ := List.mem_flatten.mp hx
          rw [(List.mem_replicate.mp hl).2] at hx
          exact o0 x (cut_mem hx)
        · rw [show (3 : Int).toNat = 3 from rfl]
          simp only [List.length_flatten, List.map_replicate, List.sum_replicate_nat]
          omega
      · rw [wp_bind, wp_bind]
        refine dix hl hdd (y := 8) (by omega) rfl fun e _ _ => wp_ok.mpr (wp_ite.mpr ⟨fun _ => wp_ok.mpr ⟨fun x hx => o0 x (cut_mem hx), Nat.le_trans (cut_le _ _ _) (by omega)⟩, fun _ => ?_⟩)
        rw [wp_bind, wp_bind]
        refine dix hl hdd (y := 8) (by omega) rfl fun e _ _ => wp_ok.mpr (wp_ite.mpr ⟨fun _ => ?_, fun _ => wp_ok.mpr ⟨o0, by omega⟩⟩)
        rw [wp_bind]
        have h1 := cut_le C none (some 3)
        have h2 := cut_le C none (some 2)
        refine wp_cat (by omega) (wp_ok.mpr ⟨fun x hx => ?_, by rw [List.length_append]; omega⟩)
        rcases List.mem_append.mp hx with q | q
        · exact o0 x (cut_mem q)
        · exact o0 x (cut_mem q)
theorem without_ok (h1 : 0 ≤ b.1) (h2 : b.1 ≤ 8) (h3 : 0 ≤ b.2) (h4 : b.2 ≤ 8) {C : List Cr} (hC : ∀ x ∈ C, onb b x) : m_without_doubles b C = .ok (srtC C) := by
  have hcl := corners_len h1 h3
  have hcl2 : (b.1 + 1) * (b.2 + 1) ≤ 9 * 9 := Int.mul_le_mul (by omega) (by omega) (by omega) (by omega)
  unfold m_without_doubles
  rw [all_corners_ok h1 h2 h3 h4]
  simp only [bo]
  rw [show (lcR (fun (corner_1 : Cr) => (R.ok (memB corner_1 C))) (fun (corner_1 : Cr) => (R.ok corner_1)) (corners b) : R Er (List Cr)) = .ok (srtC C) from wp.eq (wp_lc (fun c => memB c C) (fun c => c) (by omega) (fun _ _ => rfl) (fun _ _ _ => rfl) (by rw [List.map_id', row_srt h4 h2 hC]))]
  rfl
end
theorem law_math : ∀ ns : List Int, ns.length ≤ 63 → m_law ns = .ok true := by
  intro ns _
  refine wp.eq ?_
  unfold m_law
  simp only [wp_bind, wp_ok]
  refine cell_wp (by omega) fun c0 => some_wp fun b h1 h2 h3 h4 hB => bits_wp (by omega) fun bt hb hv => fill_wp h1 h2 h3 h4 hb hv fun d hd => ?_
  rw [texts_ok h1 h2 h3 h4 hd, wp_ok]
  obtain ⟨T, m1, al, _⟩ := made_ok h1 h2 h3 h4 hd
  rw [m1, wp_ok]
  have hT := al.pln hd
  have hcl := hB.len h1 h3
  refine cell_wp (by omega) fun c3 => wp.mono (given_wp h1 h2 h3 h4 hB hd) fun C ⟨hC, hn⟩ => wp.mono (closure_ok h1 h2 h3 h4 hB hd hC (by omega)) fun S hS => ?_
  have hSo := hS.on hC
  have hSl := hS.len hC
  rw [closes_ok h1 h2 h3 h4 hB hd al hC (by omega) hS, wp_ok, if_neg (by simp)]
  simp only [wp_bind, wp_ok]
  refine cell_wp (by omega) fun c4 => draws_wp (by simp) (by simp) fun dd hl hdd => dix hl hdd (y := 12) (by omega) rfl fun v _ _ => wp_mod (by omega) ?_
  generalize v % ((C.length : Int) + 1) = a
  have lc := cut_le C (some a) none
  refine wp_cat (by rw [List.length_reverse]; omega) ?_
  have hQ : ∀ x ∈ cut C (some a) none ++ C.reverse, onb b x := fun x hx => by
    rcases List.mem_append.mp hx with q | q
    · exact hC x (cut_mem q)
    · exact hC x (List.mem_reverse.mp q)
  have hS2 : IsS d (cut C (some a) none ++ C.reverse) S := ⟨fun c => (hS.m c).trans ⟨fun h => h.mono fun c hc => .base (List.mem_append_right _ (List.mem_reverse.mpr hc)), fun h => h.mono fun c hc => .base (by
    rcases List.mem_append.mp hc with q | q
    · exact cut_mem q
    · exact List.mem_reverse.mp q)⟩, hS.n, hS.p⟩
  have hS3 : IsS d S S := ⟨fun c => ⟨fun h => .base h, fun h => h.min (fun _ h => h) hS.clo⟩, hS.n, hS.p⟩
  rw [closes_ok h1 h2 h3 h4 hB hd al hQ (by rw [List.length_append, List.length_reverse]; omega) hS2, wp_ok, if_neg (by simp)]
  simp only [wp_bind, wp_ok]
  rw [closes_ok h1 h2 h3 h4 hB hd al hSo (by omega) hS3, wp_ok, if_neg (by simp)]
  simp only [wp_bind, wp_ok]
  rw [without_ok h1 h2 h3 h4 hC, wp_ok]
  have hm : ∀ c, c ∈ srtC C ↔ c ∈ C := fun c => (srtC_perm C).mem_iff.trans mem_dd
  have hrow : ∀ x ∈ srtC C, onb b x := fun x hx => hC x ((hm x).mp hx)
  have hrn : (srtC C).Nodup := (srtC_perm C).nodup_iff.mpr (nd_dd C)
  have hrl : (srtC C).length ≤ 18 := Nat.le_trans (List.Nodup.length_le_of_subset hrn fun x hx => corners_mem.mpr (hrow x hx)) hcl
  have in64 : ∀ {X : List Cr}, (∀ x ∈ X, onb b x) → ∀ x ∈ X, 0 ≤ x.1 ∧ x.1 < 64 ∧ 0 ≤ x.2 ∧ x.2 < 64 := fun h x hx => by obtain ⟨a1, a2, a3, a4⟩ := h x hx; omega
  have self : ∀ {X : List Cr}, (∀ x ∈ X, onb b x) → X.Nodup → X.Pairwise (fun a c => cdC a ≤ cdC c) → srtC X = X := fun h n p => (srtC_uniq (List.all_eq_true.mpr fun c hc => decide_eq_true (in64 h c hc)) n (fun _ => Iff.rfl) p).symm
  rw [open_pair_ok h2 h4 hT hC (by omega), wp_ok, open_row h2 h4 hd hrow (by omega), wp_ok]
  rw [← opn_alike al (t := srtC C) (t' := C) hrow hm, is_open_same, wp_ok, if_neg (by simp)]
  simp only [wp_bind, wp_ok]
  rw [open_pair_ok h2 h4 hT hrow (by omega), wp_ok, self hrow hrn (srtC_pw C), ← opn_alike al (t := srtC C) hrow fun _ => Iff.rfl]
  have e1 : (opn d (srtC C) (srtC C)).isNone = decide (srtC C = S) := by
    by_cases c : srtC C = S
    · have : opn d (srtC C) (srtC C) = none := (opn_clo hd hrow fun _ => Iff.rfl).mpr (by rw [c]; exact hS.clo)
      rw [this, decide_eq_true c]
      rfl
    · rw [decide_eq_false c]
      cases e : opn d (srtC C) (srtC C) with
      | some x => rfl
      | none =>
        have clo := (opn_clo hd hrow fun _ => Iff.rfl).mp e
        refine absurd ?_ c
        exact IsS.uniq h2 h4 hC (⟨fun c => ⟨fun h => .base ((hm c).mp h), fun h => h.min (fun c hc => (hm c).mpr hc) clo⟩, hrn, srtC_pw C⟩ : IsS d C (srtC C)) hS fun _ => Iff.rfl
  rw [e1, if_neg (by simp)]
  simp only [wp_bind, wp_ok]
  have hSr : ∀ x ∈ S.reverse, onb b x := fun x hx => hSo x (List.mem_reverse.mp hx)
  rw [open_pair_ok h2 h4 hT hSr (by rw [List.length_reverse]; omega), wp_ok]
  have e2 : opn T (srtC S.reverse) S.reverse = none := by
    rw [srtC_same (C' := S) (in64 hSr) fun c => List.mem_reverse, self hSo hS.n hS.p]
    have e := (opn_clo hd hSo fun _ => Iff.rfl).mpr hS.clo
    rw [opn_alike al (t := S) (t' := S.reverse) hSo fun c => List.mem_reverse.symm] at e
    exact e
  rw [e2, if_neg (by simp)]
  simp only [wp_bind, wp_ok]
  refine dix hl hdd (y := 20) (by omega) rfl fun w _ _ => wp_mod (by split <;> omega) ?_
  have q0 := Int.emod_nonneg w (show (if (S.length : Int) > 1 then (S.length : Int) else 1) ≠ 0 by split <;> omega)
  have q1 := Int.emod_lt_of_pos w (show 0 < (if (S.length : Int) > 1 then (S.length : Int) else 1) by split <;> omega)
  generalize w % (if (S.length : Int) > 1 then (S.length : Int) else 1) = at_ at q0 q1
  have q2 : at_ ≤ S.length := by split at q1 <;> omega
  obtain ⟨n, rfl⟩ : ∃ n : Nat, at_ = n := ⟨at_.toNat, by omega⟩
  rw [show ((n : Int) + 1) = ((n + 1 : Nat) : Int) by omega, cut_from, cut_to S (by omega)]
  refine wp_cat (by rw [List.length_take, List.length_drop]; omega) ?_
  have sub : (S.take n ++ S.drop (n + 1)).Sublist S := by
    have h := (List.Sublist.refl (S.take n)).append (List.drop_sublist_drop_left S (Nat.le_succ n))
    rwa [List.take_append_drop] at h
  have ln := hS.n.sublist sub
  have lp := hS.p.sublist sub
  have lo : ∀ x ∈ S.take n ++ S.drop (n + 1), onb b x := fun x hx => hSo x (sub.subset hx)
  have ll := sub.length_le
  generalize S.take n ++ S.drop (n + 1) = less at ln lp lo ll
  rw [open_pair_ok h2 h4 hT lo (by omega), wp_ok, open_row h2 h4 hd lo (by omega), wp_ok, self lo ln lp, ← opn_alike al (t := less) lo fun _ => Iff.rfl, is_open_same, wp_ok, if_neg (by simp)]
  simp only [wp_bind, wp_ok]
  refine dix hl hdd (y := 12) (by omega) rfl fun u _ _ => wp_mod (by omega) ?_
  generalize u % ((C.length : Int) + 1) = j
  have pl := cut_le C none (some j)
  have po : ∀ x ∈ cut C none (some j), onb b x := fun x hx => hC x (cut_mem hx)
  have pc : ∀ x ∈ cut C none (some j), x ∈ C := fun x hx => cut_mem hx
  generalize cut C none (some j) = P at pl po pc
  obtain ⟨S', eS, hS'⟩ := closure_ok h1 h2 h3 h4 hB hd po (by omega)
  obtain ⟨E, _, _, _, _, _, _, ec⟩ := own_ok (r := CpLaw.S (cds b d true)) (f := CpLaw.S (cds b d false)) h1 h2 h3 h4 hB hd al po (by omega) hS'
  have hSl' := hS'.len po
  rw [own_2, ec, wp_ok, eS, wp_ok, is_row_same S' (by omega), wp_ok, if_neg (by simp)]
  simp only [wp_bind, wp_ok]
  refine wp_lc (fun c => !memB c S) (fun c => c) (by omega) (fun _ _ => rfl) (fun _ _ _ => rfl) ?_
  rw [List.map_id']
  have e0 : (S'.filter fun c => !memB c S) = [] := List.filter_eq_nil_iff.mpr fun c hc => by
    have h : Cl d C c := ((hS'.m c).mp hc).mono fun c hc => .base (pc c hc)
    rw [memB_of ((hS.m c).mpr h)]
    simp
  rw [e0]
  rfl
def d_cell : He.DefD := ⟨("_law_cell", none), "_law_cell", "_law_cell", defArgs s_cell, defBody s_cell, defScope s_cell, [], []⟩
def d_draws : He.DefD := ⟨("_law_draws", none), "_law_draws", "_law_draws", defArgs s_draws, defBody s_draws, defScope s_draws, [], []⟩
def d_board : He.DefD := ⟨("_law_board", none), "_law_board", "_law_board", defArgs s_board, defBody s_board, defScope s_board, [], []⟩
def d_some_board : He.DefD := ⟨("_law_some_board", none), "_law_some_board", "_law_some_board", defArgs s_some_board, defBody s_some_board, defScope s_some_board, [], []⟩
def d_bits : He.DefD := ⟨("_law_bits", none), "_law_bits", "_law_bits", defArgs s_bits, defBody s_bits, defScope s_bits, [], []⟩
def d_pairs : He.DefD := ⟨("_law_pairs", none), "_law_pairs", "_law_pairs", defArgs s_pairs, defBody s_pairs, defScope s_pairs, [], []⟩
def d_moved : He.DefD := ⟨("_law_moved", none), "_law_moved", "_law_moved", defArgs s_moved, defBody s_moved, defScope s_moved, [], []⟩
def d_letter : He.DefD := ⟨("_law_letter", none), "_law_letter", "_law_letter", defArgs s_letter, defBody s_letter, defScope s_letter, [], []⟩
def d_walk : He.DefD := ⟨("_law_walk", none), "_law_walk", "_law_walk", defArgs s_walk, defBody s_walk, defScope s_walk, [], []⟩
def d_texts : He.DefD := ⟨("_law_texts", none), "_law_texts", "_law_texts", defArgs s_texts, defBody s_texts, defScope s_texts, [], []⟩
def d_corners_of : He.DefD := ⟨("corners_of", none), "corners_of", "corners_of", defArgs s_corners_of, defBody s_corners_of, defScope s_corners_of, [], []⟩
def d_rising_pairs : He.DefD := ⟨("rising_pairs", none), "rising_pairs", "rising_pairs", defArgs s_rising_pairs, defBody s_rising_pairs, defScope s_rising_pairs, [], []⟩
def d_falling_pairs : He.DefD := ⟨("falling_pairs", none), "falling_pairs", "falling_pairs", defArgs s_falling_pairs, defBody s_falling_pairs, defScope s_falling_pairs, [], []⟩
def d_pairs_of : He.DefD := ⟨("pairs_of", none), "pairs_of", "pairs_of", defArgs s_pairs_of, defBody s_pairs_of, defScope s_pairs_of, [], []⟩
def d_steep_letter : He.DefD := ⟨("steep_letter", none), "steep_letter", "steep_letter", defArgs s_steep_letter, defBody s_steep_letter, defScope s_steep_letter, [], []⟩
def d_has_table_form : He.DefD := ⟨("has_table_form", none), "has_table_form", "has_table_form", defArgs s_has_table_form, defBody s_has_table_form, defScope s_has_table_form, [], []⟩
def d_letters_by_pair : He.DefD := ⟨("letters_by_pair", none), "letters_by_pair", "letters_by_pair", defArgs s_letters_by_pair, defBody s_letters_by_pair, defScope s_letters_by_pair, [], []⟩
def d_steps_between : He.DefD := ⟨("steps_between", none), "steps_between", "steps_between", defArgs s_steps_between, defBody s_steps_between, defScope s_steps_between, [], []⟩
def d_pairs_by_steps : He.DefD := ⟨("pairs_by_steps", none), "pairs_by_steps", "pairs_by_steps", defArgs s_pairs_by_steps, defBody s_pairs_by_steps, defScope s_pairs_by_steps, [], []⟩
def d_moved_own : He.DefD := ⟨("moved", none), "moved", "moved", defArgs s_moved_own, defBody s_moved_own, defScope s_moved_own, [], []⟩
def d_first_letter : He.DefD := ⟨("first_letter", none), "first_letter", "first_letter", defArgs s_first_letter, defBody s_first_letter, defScope s_first_letter, [], []⟩
def d_last_letters : He.DefD := ⟨("last_letters", none), "last_letters", "last_letters", defArgs s_last_letters, defBody s_last_letters, defScope s_last_letters, [], []⟩
def d_before : He.DefD := ⟨("before", none), "before", "before", defArgs s_before, defBody s_before, defScope s_before, [], []⟩
def d_find_broken_pair : He.DefD := ⟨("find_broken_pair", none), "find_broken_pair", "find_broken_pair", defArgs s_find_broken_pair, defBody s_find_broken_pair, defScope s_find_broken_pair, [], []⟩
def d_Plane_init : He.DefD := ⟨("Plane", some "__init__"), "__init__", "Plane.__init__", defArgs s_Plane_init, defBody s_Plane_init, defScope s_Plane_init, [], []⟩
def d_line : He.DefD := ⟨("_law_line", none), "_law_line", "_law_line", defArgs s_line, defBody s_line, defScope s_line, [], []⟩
def d_given : He.DefD := ⟨("_law_given", none), "_law_given", "_law_given", defArgs s_given, defBody s_given, defScope s_given, [], []⟩
def d_closure : He.DefD := ⟨("_law_closure", none), "_law_closure", "_law_closure", defArgs s_closure, defBody s_closure, defScope s_closure, [], []⟩
def d_on_board : He.DefD := ⟨("on_board", none), "on_board", "on_board", defArgs s_on_board, defBody s_on_board, defScope s_on_board, [], []⟩
def d_Plane_letter : He.DefD := ⟨("Plane", some "letter"), "letter", "Plane.letter", defArgs s_Plane_letter, defBody s_Plane_letter, defScope s_Plane_letter, [], []⟩
def d_Plane_walked : He.DefD := ⟨("Plane", some "walked"), "walked", "Plane.walked", defArgs s_Plane_walked, defBody s_Plane_walked, defScope s_Plane_walked, [], []⟩
def d_Plane_line : He.DefD := ⟨("Plane", some "line"), "line", "Plane.line", defArgs s_Plane_line, defBody s_Plane_line, defScope s_Plane_line, [], []⟩
def d_derivation : He.DefD := ⟨("derivation", none), "derivation", "derivation", defArgs s_derivation, defBody s_derivation, defScope s_derivation, [], []⟩
def d_closure_own : He.DefD := ⟨("closure", none), "closure", "closure", defArgs s_closure_own, defBody s_closure_own, defScope s_closure_own, [], []⟩
def d_is_integer : He.DefD := ⟨("_law_is_integer", none), "_law_is_integer", "_law_is_integer", defArgs s_is_integer, defBody s_is_integer, defScope s_is_integer, [], []⟩
def d_is_corner : He.DefD := ⟨("_law_is_corner", none), "_law_is_corner", "_law_is_corner", defArgs s_is_corner, defBody s_is_corner, defScope s_is_corner, [], []⟩
def d_is_row : He.DefD := ⟨("_law_is_row", none), "_law_is_row", "_law_is_row", defArgs s_is_row, defBody s_is_row, defScope s_is_row, [], []⟩
def d_is_right_derivation : He.DefD := ⟨("_law_is_right_derivation", none), "_law_is_right_derivation", "_law_is_right_derivation", defArgs s_is_right_derivation, defBody s_is_right_derivation, defScope s_is_right_derivation, [], []⟩
def d_is_derivation : He.DefD := ⟨("is_derivation", none), "is_derivation", "is_derivation", defArgs s_is_derivation, defBody s_is_derivation, defScope s_is_derivation, [], []⟩
def d_closes : He.DefD := ⟨("_law_closes", none), "_law_closes", "_law_closes", defArgs s_closes, defBody s_closes, defScope s_closes, [], []⟩
def d_all_corners : He.DefD := ⟨("_law_all_corners", none), "_law_all_corners", "_law_all_corners", defArgs s_all_corners, defBody s_all_corners, defScope s_all_corners, [], []⟩
def d_without_doubles : He.DefD := ⟨("_law_without_doubles", none), "_law_without_doubles", "_law_without_doubles", defArgs s_without_doubles, defBody s_without_doubles, defScope s_without_doubles, [], []⟩
def d_open_pair : He.DefD := ⟨("open_pair", none), "open_pair", "open_pair", defArgs s_open_pair, defBody s_open_pair, defScope s_open_pair, [], []⟩
def d_open : He.DefD := ⟨("_law_open", none), "_law_open", "_law_open", defArgs s_open, defBody s_open, defScope s_open, [], []⟩
def d_is_path : He.DefD := ⟨("_law_is_path", none), "_law_is_path", "_law_is_path", defArgs s_is_path, defBody s_is_path, defScope s_is_path, [], []⟩
def d_is_open : He.DefD := ⟨("_law_is_open", none), "_law_is_open", "_law_is_open", defArgs s_is_open, defBody s_is_open, defScope s_is_open, [], []⟩
def d_fill : He.DefD := ⟨("_law_fill", none), "_law_fill", "_law_fill", defArgs s_fill, defBody s_fill, defScope s_fill, [], []⟩
def d_law : He.DefD := ⟨("law", none), "law", "law", defArgs s_law, defBody s_law, defScope s_law, [], []⟩
def fn0 : List He.DefD := [d_cell, d_draws, d_board, d_some_board, d_bits, d_pairs, d_moved, d_letter, d_walk, d_texts, d_corners_of, d_rising_pairs, d_falling_pairs, d_pairs_of, d_steep_letter, d_has_table_form, d_letters_by_pair, d_steps_between, d_pairs_by_steps, d_moved_own, d_first_letter, d_last_letters, d_before, d_find_broken_pair, d_Plane_init, d_line, d_given, d_closure, d_on_board, d_Plane_letter]
def fn1 : List He.DefD := [d_Plane_walked, d_Plane_line, d_derivation, d_closure_own, d_is_integer, d_is_corner, d_is_row, d_is_right_derivation, d_is_derivation, d_closes, d_all_corners, d_without_doubles, d_open_pair, d_open, d_is_path, d_is_open, d_fill, d_law]
def fn : List He.DefD := fn0 ++ fn1
def fa0 : List He.Fa := [.glo "_law_cell", .glo "_law_draws", .glo "_law_board", .glo "_law_some_board", .glo "_law_bits", .glo "_law_pairs", .glo "_law_moved", .glo "_law_letter", .glo "_law_walk", .glo "_law_texts", .glo "corners_of", .glo "rising_pairs", .glo "falling_pairs", .glo "pairs_of", .glo "steep_letter", .glo "has_table_form", .glo "letters_by_pair", .glo "steps_between", .glo "pairs_by_steps", .glo "moved", .glo "first_letter", .glo "last_letters", .glo "before", .glo "find_broken_pair", .mkr "Plane", .glo "_law_line", .glo "_law_given", .glo "_law_closure", .glo "on_board", .meth "Plane" "letter"]
def fa1 : List He.Fa := [.meth "Plane" "walked", .meth "Plane" "line", .glo "derivation", .glo "closure", .glo "_law_is_integer", .glo "_law_is_corner", .glo "_law_is_row", .glo "_law_is_right_derivation", .glo "is_derivation", .glo "_law_closes", .glo "_law_all_corners", .glo "_law_without_doubles", .glo "open_pair", .glo "_law_open", .glo "_law_is_path", .glo "_law_is_open", .glo "_law_fill", .glo "law", .free "abs", .free "bool", .free "int", .free "isinstance", .free "len", .free "list", .free "max", .free "range", .free "set", .free "sorted", .free "tuple", .free "zip"]
def fa2 : List He.Fa := [.str "FALLING" ("falling" : PySem.Str), .str "RISING" ("rising" : PySem.Str), .glo "Plane", .cls "Plane", .noat "Plane" "board", .noat "Plane" "rising", .noat "Plane" "falling", .noat "Plane" "letters"]
def fa : List He.Fa := fa0 ++ fa1 ++ fa2
def nm0 : List PySem.Str := ["_wall", "PlaneError", "OffBoard", "BadTable", "BrokenTable", "open_pair", "derivation", "is_derivation", "closure", "RISING", "FALLING", "corners_of", "on_board", "rising_pairs", "falling_pairs", "pairs_of", "steps_between", "pairs_by_steps", "steep_letter", "moved", "has_table_form", "letters_by_pair", "first_letter", "before", "last_letters", "find_broken_pair", "Plane", "_law_cell", "_law_draws", "_law_board"]
def nm1 : List PySem.Str := ["_law_all_corners", "_law_moved", "_law_letter", "_law_walk", "_law_line", "_law_pairs", "_law_texts", "_law_bits", "_law_fill", "_law_closure", "_law_is_integer", "_law_is_corner", "_law_is_row", "_law_is_path", "_law_some_board", "_law_given", "_law_without_doubles", "_law_open", "_law_is_open", "_law_is_right_derivation", "_law_closes"]
def nm : List PySem.Str := nm0 ++ nm1
abbrev Ro : PySem.W.OpenRow := PySem.W.OpenLaw.row PySem.Challenge.rw_cornerplane_k40_whole_closure_in_any_ord
def tfs : List (He.Defn × PySem.Str) := [(("pairs_by_steps", none), "pairs_by_steps.<locals>.<lambda>")]
abbrev tf : List He.Defn := tfs.map fun p => p.1
def exq : PySem.W.Frag → Bool := exTab tfs
abbrev hk : PySem.W.Hook := He.hookX 4 fa fn [] tf exq
def ob (s : PySem.W.SharedT) : He.AlX := He.obsX 4 fa fn [] tf exq (HandSHeadRun.getT s)
theorem ob_eq (s : PySem.W.SharedT) : ob s = hk.obs s.abs := He.obsX_eq (HandSHeadRun.getT_eq s)
def vw : Program := PySem.W.view Ro.prog [57]
noncomputable def endd (w : World) (os : OsState) := HandSHeadRun.endF (HandSHeadRun.stepQ (HandSHeadRun.denQ HandSHeadRun.tabQ) Ro.prog w) 20000 Ro.prog w os
theorem run_join {w : World} (hA : ∀ os : OsState, (endd w os).map (fun s => HandSHeadRun.looksF Ro.prog (PySem.W.boot_heap w.params) s.abs) = some true)
    (hB : ∀ os : OsState, (endd w os).map (fun s => HandSHeadRun.seenQ vw nm (importedModules Ro.prog.main.body) (fun s => PySem.W.xlAt vw [] s && PySem.W.recOk Ro.toRowW.records s) s.abs) = some (PySem.W.openGood vw nm))
    (hC : ∀ os : OsState, (endd w os).map (fun s => ob s) = some (hk.val w)) : HandSHeadRun.RunEq Ro vw hk ob 20000 nm w := fun os => by
  have a := hA os
  have b := hB os
  have c := hC os
  show (endd w os).map _ = _
  revert a b c
  generalize endd w os = e
  intro a b c
  cases e with
  | none => cases a
  | some s =>
    have a := Option.some.inj a
    have b := Option.some.inj b
    have c := Option.some.inj c
    simp only at a b c
    show some (_, _, _) = some (_, _, _)
    rw [a, b, c]
theorem runA (w : World) : ∀ os : OsState, (endd w os).map (fun s => HandSHeadRun.looksF Ro.prog (PySem.W.boot_heap (w).params) s.abs) = some true := by
  intro os
  kernel_rfl
theorem runB (w : World) : ∀ os : OsState, (endd w os).map (fun s => HandSHeadRun.seenQ vw nm (importedModules Ro.prog.main.body) (fun s => PySem.W.xlAt vw [] s && PySem.W.recOk Ro.toRowW.records s) s.abs) = some (PySem.W.openGood vw nm) := by
  intro os
  kernel_rfl
theorem runC (w : World) : ∀ os : OsState, (endd w os).map (fun s => ob s) = some (hk.val w) := by
  intro os
  kernel_rfl
theorem run (w : World) : HandSHeadRun.RunEq Ro vw hk ob 20000 nm w := run_join (runA w) (runB w) (runC w)
theorem facts {P : Program} {w : World} {K : PySem.W.Frag} {h : Heap} {mg : Str → Option Value} {f : Addr} (X : K.In h) (G : h.Ns mainGlobals mg) (hfa : mg ("law" : Str) = some (.ref f)) (cx : He.SaysX fa fn [] tf exq w h K) :
    ∃ fd : FuncData, (∀ (s : Shared) (v : Value), BindsTo s fd ⟨[v], []⟩ [("_law_script", v)]) ∧ ∀ base : Heap, K.In base → base.Ns mainGlobals mg → (∀ p ∈ tfs.map fun p => He.cT K p.1, LamX.TabB base mg p.1 p.2) → FnOk P w K mg base CX 10 f fd ["_law_script"] (sp_law P w K) := by
  have c := cx.t.d
  obtain ⟨fd_cell, F_cell⟩ := c.def_ 0 (d := d_cell) rfl
  obtain ⟨fd_draws, F_draws⟩ := c.def_ 1 (d := d_draws) rfl
  obtain ⟨fd_board, F_board⟩ := c.def_ 2 (d := d_board) rfl
  obtain ⟨fd_some_board, F_some_board⟩ := c.def_ 3 (d := d_some_board) rfl
  obtain ⟨fd_bits, F_bits⟩ := c.def_ 4 (d := d_bits) rfl
  obtain ⟨fd_pairs, F_pairs⟩ := c.def_ 5 (d := d_pairs) rfl
  obtain ⟨fd_moved, F_moved⟩ := c.def_ 6 (d := d_moved) rfl
  obtain ⟨fd_letter, F_letter⟩ := c.def_ 7 (d := d_letter) rfl
  obtain ⟨fd_walk, F_walk⟩ := c.def_ 8 (d := d_walk) rfl
  obtain ⟨fd_texts, F_texts⟩ := c.def_ 9 (d := d_texts) rfl
  obtain ⟨fd_corners_of, F_corners_of⟩ := c.def_ 10 (d := d_corners_of) rfl
  obtain ⟨fd_rising_pairs, F_rising_pairs⟩ := c.def_ 11 (d := d_rising_pairs) rfl
  obtain ⟨fd_falling_pairs, F_falling_pairs⟩ := c.def_ 12 (d := d_falling_pairs) rfl
  obtain ⟨fd_pairs_of, F_pairs_of⟩ := c.def_ 13 (d := d_pairs_of) rfl
  obtain ⟨fd_steep_letter, F_steep_letter⟩ := c.def_ 14 (d := d_steep_letter) rfl
  obtain ⟨fd_has_table_form, F_has_table_form⟩ := c.def_ 15 (d := d_has_table_form) rfl
  obtain ⟨fd_letters_by_pair, F_letters_by_pair⟩ := c.def_ 16 (d := d_letters_by_pair) rfl
  obtain ⟨fd_steps_between, F_steps_between⟩ := c.def_ 17 (d := d_steps_between) rfl
  obtain ⟨fd_pairs_by_steps, F_pairs_by_steps⟩ := c.def_ 18 (d := d_pairs_by_steps) rfl
  obtain ⟨fd_moved_own, F_moved_own⟩ := c.def_ 19 (d := d_moved_own) rfl
  obtain ⟨fd_first_letter, F_first_letter⟩ := c.def_ 20 (d := d_first_letter) rfl
  obtain ⟨fd_last_letters, F_last_letters⟩ := c.def_ 21 (d := d_last_letters) rfl
  obtain ⟨fd_before, F_before⟩ := c.def_ 22 (d := d_before) rfl
  obtain ⟨fd_find_broken_pair, F_find_broken_pair⟩ := c.def_ 23 (d := d_find_broken_pair) rfl
  obtain ⟨fd_Plane_init, F_Plane_init⟩ := c.def_ 24 (d := d_Plane_init) rfl
  obtain ⟨fd_line, F_line⟩ := c.def_ 25 (d := d_line) rfl
  obtain ⟨fd_given, F_given⟩ := c.def_ 26 (d := d_given) rfl
  obtain ⟨fd_closure, F_closure⟩ := c.def_ 27 (d := d_closure) rfl
  obtain ⟨fd_on_board, F_on_board⟩ := c.def_ 28 (d := d_on_board) rfl
  obtain ⟨fd_Plane_letter, F_Plane_letter⟩ := c.def_ 29 (d := d_Plane_letter) rfl
  obtain ⟨fd_Plane_walked, F_Plane_walked⟩ := c.def_ 30 (d := d_Plane_walked) rfl
  obtain ⟨fd_Plane_line, F_Plane_line⟩ := c.def_ 31 (d := d_Plane_line) rfl
  obtain ⟨fd_derivation, F_derivation⟩ := c.def_ 32 (d := d_derivation) rfl
  obtain ⟨fd_closure_own, F_closure_own⟩ := c.def_ 33 (d := d_closure_own) rfl
  obtain ⟨fd_is_integer, F_is_integer⟩ := c.def_ 34 (d := d_is_integer) rfl
  obtain ⟨fd_is_corner, F_is_corner⟩ := c.def_ 35 (d := d_is_corner) rfl
  obtain ⟨fd_is_row, F_is_row⟩ := c.def_ 36 (d := d_is_row) rfl
  obtain ⟨fd_is_right_derivation, F_is_right_derivation⟩ := c.def_ 37 (d := d_is_right_derivation) rfl
  obtain ⟨fd_is_derivation, F_is_derivation⟩ := c.def_ 38 (d := d_is_derivation) rfl
  obtain ⟨fd_closes, F_closes⟩ := c.def_ 39 (d := d_closes) rfl
  obtain ⟨fd_all_corners, F_all_corners⟩ := c.def_ 40 (d := d_all_corners) rfl
  obtain ⟨fd_without_doubles, F_without_doubles⟩ := c.def_ 41 (d := d_without_doubles) rfl
  obtain ⟨fd_open_pair, F_open_pair⟩ := c.def_ 42 (d := d_open_pair) rfl
  obtain ⟨fd_open, F_open⟩ := c.def_ 43 (d := d_open) rfl
  obtain ⟨fd_is_path, F_is_path⟩ := c.def_ 44 (d := d_is_path) rfl
  obtain ⟨fd_is_open, F_is_open⟩ := c.def_ 45 (d := d_is_open) rfl
  obtain ⟨fd_fill, F_fill⟩ := c.def_ 46 (d := d_fill) rfl
  obtain ⟨fd_law, F_law⟩ := c.def_ 47 (d := d_law) rfl
  have g_cell := He.glo_ok X G (c.fact 0 (f := .glo "_law_cell") rfl)
  have g_draws := He.glo_ok X G (c.fact 1 (f := .glo "_law_draws") rfl)
  have g_board := He.glo_ok X G (c.fact 2 (f := .glo "_law_board") rfl)
  have g_some_board := He.glo_ok X G (c.fact 3 (f := .glo "_law_some_board") rfl)
  have g_bits := He.glo_ok X G (c.fact 4 (f := .glo "_law_bits") rfl)
  have g_pairs := He.glo_ok X G (c.fact 5 (f := .glo "_law_pairs") rfl)
  have g_moved := He.glo_ok X G (c.fact 6 (f := .glo "_law_moved") rfl)
  have g_letter := He.glo_ok X G (c.fact 7 (f := .glo "_law_letter") rfl)
  have g_walk := He.glo_ok X G (c.fact 8 (f := .glo "_law_walk") rfl)
  have g_texts := He.glo_ok X G (c.fact 9 (f := .glo "_law_texts") rfl)
  have g_corners_of := He.glo_ok X G (c.fact 10 (f := .glo "corners_of") rfl)
  have g_rising_pairs := He.glo_ok X G (c.fact 11 (f := .glo "rising_pairs") rfl)
  have g_falling_pairs := He.glo_ok X G (c.fact 12 (f := .glo "falling_pairs") rfl)
  have g_pairs_of := He.glo_ok X G (c.fact 13 (f := .glo "pairs_of") rfl)
  have g_steep_letter := He.glo_ok X G (c.fact 14 (f := .glo "steep_letter") rfl)
  have g_has_table_form := He.glo_ok X G (c.fact 15 (f := .glo "has_table_form") rfl)
  have g_letters_by_pair := He.glo_ok X G (c.fact 16 (f := .glo "letters_by_pair") rfl)
  have g_steps_between := He.glo_ok X G (c.fact 17 (f := .glo "steps_between") rfl)
  have g_pairs_by_steps := He.glo_ok X G (c.fact 18 (f := .glo "pairs_by_steps") rfl)
  have g_moved_own := He.glo_ok X G (c.fact 19 (f := .glo "moved") rfl)
  have g_first_letter := He.glo_ok X G (c.fact 20 (f := .glo "first_letter") rfl)
  have g_last_letters := He.glo_ok X G (c.fact 21 (f := .glo "last_letters") rfl)
  have g_before := He.glo_ok X G (c.fact 22 (f := .glo "before") rfl)
  have g_find_broken_pair := He.glo_ok X G (c.fact 23 (f := .glo "find_broken_pair") rfl)
  have g_Plane_init := He.mkr_ok (c.fact 24 (f := .mkr "Plane") rfl)
  have g_line := He.glo_ok X G (c.fact 25 (f := .glo "_law_line") rfl)
  have g_given := He.glo_ok X G (c.fact 26 (f := .glo "_law_given") rfl)
  have g_closure := He.glo_ok X G (c.fact 27 (f := .glo "_law_closure") rfl)
  have g_on_board := He.glo_ok X G (c.fact 28 (f := .glo "on_board") rfl)
  have g_Plane_letter := He.meth_ok (c.fact 29 (f := .meth "Plane" "letter") rfl)
  have g_Plane_walked := He.meth_ok (c.fact 30 (f := .meth "Plane" "walked") rfl)
  have g_Plane_line := He.meth_ok (c.fact 31 (f := .meth "Plane" "line") rfl)
  have g_derivation := He.glo_ok X G (c.fact 32 (f := .glo "derivation") rfl)
  have g_closure_own := He.glo_ok X G (c.fact 33 (f := .glo "closure") rfl)
  have g_is_integer := He.glo_ok X G (c.fact 34 (f := .glo "_law_is_integer") rfl)
  have g_is_corner := He.glo_ok X G (c.fact 35 (f := .glo "_law_is_corner") rfl)
  have g_is_row := He.glo_ok X G (c.fact 36 (f := .glo "_law_is_row") rfl)
  have g_is_right_derivation := He.glo_ok X G (c.fact 37 (f := .glo "_law_is_right_derivation") rfl)
  have g_is_derivation := He.glo_ok X G (c.fact 38 (f := .glo "is_derivation") rfl)
  have g_closes := He.glo_ok X G (c.fact 39 (f := .glo "_law_closes") rfl)
  have g_all_corners := He.glo_ok X G (c.fact 40 (f := .glo "_law_all_corners") rfl)
  have g_without_doubles := He.glo_ok X G (c.fact 41 (f := .glo "_law_without_doubles") rfl)
  have g_open_pair := He.glo_ok X G (c.fact 42 (f := .glo "open_pair") rfl)
  have g_open := He.glo_ok X G (c.fact 43 (f := .glo "_law_open") rfl)
  have g_is_path := He.glo_ok X G (c.fact 44 (f := .glo "_law_is_path") rfl)
  have g_is_open := He.glo_ok X G (c.fact 45 (f := .glo "_law_is_open") rfl)
  have g_fill := He.glo_ok X G (c.fact 46 (f := .glo "_law_fill") rfl)
  have g_law := He.glo_ok X G (c.fact 47 (f := .glo "law") rfl)
  have gl_Plane := He.glo_ok X G (c.fact 62 (f := .glo "Plane") rfl)
  have oc : OC K := ⟨He.cls_ok (c.fact 63 (f := .cls "Plane") rfl), He.noat_ok (c.fact 64 (f := .noat "Plane" "board") rfl), He.noat_ok (c.fact 65 (f := .noat "Plane" "rising") rfl), He.noat_ok (c.fact 66 (f := .noat "Plane" "falling") rfl), He.noat_ok (c.fact 67 (f := .noat "Plane" "letters") rfl)⟩
  have bt : Bt mg := ⟨He.free_ok X G (c.fact 48 (f := .free "abs") rfl), He.free_ok X G (c.fact 49 (f := .free "bool") rfl), He.free_ok X G (c.fact 50 (f := .free "int") rfl), He.free_ok X G (c.fact 51 (f := .free "isinstance") rfl), He.free_ok X G (c.fact 52 (f := .free "len") rfl), He.free_ok X G (c.fact 53 (f := .free "list") rfl), He.free_ok X G (c.fact 54 (f := .free "max") rfl), He.free_ok X G (c.fact 55 (f := .free "range") rfl), He.free_ok X G (c.fact 56 (f := .free "set") rfl), He.free_ok X G (c.fact 57 (f := .free "sorted") rfl), He.free_ok X G (c.fact 58 (f := .free "tuple") rfl), He.free_ok X G (c.fact 59 (f := .free "zip") rfl), He.str_ok X G (c.fact 60 (f := .str "FALLING" ("falling" : PySem.Str)) rfl), He.str_ok X G (c.fact 61 (f := .str "RISING" ("rising" : PySem.Str)) rfl)⟩
  have ht := cx.more
  have e := hfa.symm.trans g_law
  cases e
  have b_law := FunD.bindsA (ps := ["_law_script"]) F_law fun _ _ _ _ _ _ us hl => match us, hl with | [_], _ => rfl
  refine ⟨fd_law, fun s v => b_law s [v] rfl, fun base _ _ TB => ?_⟩
  have la_pairs_by_steps : LamAt K mg base fd_pairs_by_steps.code ((envOfC "pairs_by_steps" (defScope s_pairs_by_steps) 0 0 .none).qual ++ "<lambda>") := by
    rw [show ((envOfC "pairs_by_steps" (defScope s_pairs_by_steps) 0 0 .none).qual ++ "<lambda>" : PySem.Str) = "pairs_by_steps.<locals>.<lambda>" from by decide +kernel]
    exact lamAt_of (d := d_pairs_by_steps) ht F_pairs_by_steps rfl TB
  have C_cell : Cal P w K mg base CX 1 "_law_cell" ["_law_script", "_law_k"] (sp_cell P w K) := ⟨_, fd_cell, ok_cell F_cell  oc bt, g_cell, F_cell.kp, F_cell.bindsN fun _ _ _ _ _ _ us hl => match us, hl with | [_, _], _ => rfl⟩
  have C_draws : Cal P w K mg base CX 1 "_law_draws" ["_law_cell_here", "_law_sizes"] (sp_draws P w K) := ⟨_, fd_draws, ok_draws F_draws  oc bt, g_draws, F_draws.kp, F_draws.bindsN fun _ _ _ _ _ _ us hl => match us, hl with | [_, _], _ => rfl⟩
  have C_board : Cal P w K mg base CX 2 "_law_board" ["_law_cell_here", "_law_most"] (sp_board P w K) := ⟨_, fd_board, ok_board F_board C_draws oc bt, g_board, F_board.kp, F_board.bindsN fun _ _ _ _ _ _ us hl => match us, hl with | [_, _], _ => rfl⟩
  have C_some_board : Cal P w K mg base CX 3 "_law_some_board" ["_law_cell_here"] (sp_some_board P w K) := ⟨_, fd_some_board, ok_some_board F_some_board C_draws C_board oc bt, g_some_board, F_some_board.kp, F_some_board.bindsN fun _ _ _ _ _ _ us hl => match us, hl with | [_], _ => rfl⟩
  have C_bits : Cal P w K mg base CX 2 "_law_bits" ["_law_script", "_law_k"] (sp_bits P w K) := ⟨_, fd_bits, ok_bits F_bits C_cell C_draws oc bt, g_bits, F_bits.kp, F_bits.bindsN fun _ _ _ _ _ _ us hl => match us, hl with | [_, _], _ => rfl⟩
  have C_pairs : Cal P w K mg base CX 1 "_law_pairs" ["_law_board_here"] (sp_pairs P w K) := ⟨_, fd_pairs, ok_pairs F_pairs  oc bt, g_pairs, F_pairs.kp, F_pairs.bindsN fun _ _ _ _ _ _ us hl => match us, hl with | [_], _ => rfl⟩
  have C_moved : Cal P w K mg base CX 1 "_law_moved" ["_law_corner", "_law_letter_here"] (sp_moved P w K) := ⟨_, fd_moved, ok_moved F_moved  oc bt, g_moved, F_moved.kp, F_moved.bindsN fun _ _ _ _ _ _ us hl => match us, hl with | [_, _], _ => rfl⟩
  have C_letter : Cal P w K mg base CX 1 "_law_letter" ["_law_table", "_law_p", "_law_q"] (sp_letter P w K) := ⟨_, fd_letter, ok_letter F_letter  oc bt, g_letter, F_letter.kp, F_letter.bindsN fun _ _ _ _ _ _ us hl => match us, hl with | [_, _, _], _ => rfl⟩
  have C_walk : Cal P w K mg base CX 2 "_law_walk" ["_law_table", "_law_p", "_law_q"] (sp_walk P w K) := ⟨_, fd_walk, ok_walk F_walk C_letter C_moved oc bt, g_walk, F_walk.kp, F_walk.bindsN fun _ _ _ _ _ _ us hl => match us, hl with | [_, _, _], _ => rfl⟩
  have C_texts : Cal P w K mg base CX 1 "_law_texts" ["_law_board_here", "_law_table"] (sp_texts P w K) := ⟨_, fd_texts, ok_texts F_texts  oc bt, g_texts, F_texts.kp, F_texts.bindsN fun _ _ _ _ _ _ us hl => match us, hl with | [_, _], _ => rfl⟩
  have C_corners_of : Cal P w K mg base CX 1 "corners_of" ["board"] (sp_corners_of P w K) := ⟨_, fd_corners_of, ok_corners_of F_corners_of  oc bt, g_corners_of, F_corners_of.kp, F_corners_of.bindsN fun _ _ _ _ _ _ us hl => match us, hl with | [_], _ => rfl⟩
  have C_rising_pairs : Cal P w K mg base CX 2 "rising_pairs" ["board"] (sp_rising_pairs P w K) := ⟨_, fd_rising_pairs, ok_rising_pairs F_rising_pairs C_corners_of oc bt, g_rising_pairs, F_rising_pairs.kp, F_rising_pairs.bindsN fun _ _ _ _ _ _ us hl => match us, hl with | [_], _ => rfl⟩
  have C_falling_pairs : Cal P w K mg base CX 2 "falling_pairs" ["board"] (sp_falling_pairs P w K) := ⟨_, fd_falling_pairs, ok_falling_pairs F_falling_pairs C_corners_of oc bt, g_falling_pairs, F_falling_pairs.kp, F_falling_pairs.bindsN fun _ _ _ _ _ _ us hl => match us, hl with | [_], _ => rfl⟩
  have C_pairs_of : Cal P w K mg base CX 3 "pairs_of" ["board", "half"] (sp_pairs_of P w K) := ⟨_, fd_pairs_of, ok_pairs_of F_pairs_of C_rising_pairs C_falling_pairs oc bt, g_pairs_of, F_pairs_of.kp, F_pairs_of.bindsN fun _ _ _ _ _ _ us hl => match us, hl with | [_, _], _ => rfl⟩
  have C_steep_letter : Cal P w K mg base CX 1 "steep_letter" ["half"] (sp_steep_letter P w K) := ⟨_, fd_steep_letter, ok_steep_letter F_steep_letter  oc bt, g_steep_letter, F_steep_letter.kp, F_steep_letter.bindsN fun _ _ _ _ _ _ us hl => match us, hl with | [_], _ => rfl⟩
  have C_has_table_form : Cal P w K mg base CX 4 "has_table_form" ["board", "half", "letters"] (sp_has_table_form P w K) := ⟨_, fd_has_table_form, ok_has_table_form F_has_table_form C_pairs_of C_steep_letter oc bt, g_has_table_form, F_has_table_form.kp, F_has_table_form.bindsN fun _ _ _ _ _ _ us hl => match us, hl with | [_, _, _], _ => rfl⟩
  have C_letters_by_pair : Cal P w K mg base CX 4 "letters_by_pair" ["board", "half", "letters"] (sp_letters_by_pair P w K) := ⟨_, fd_letters_by_pair, ok_letters_by_pair F_letters_by_pair C_pairs_of oc bt, g_letters_by_pair, F_letters_by_pair.kp, F_letters_by_pair.bindsN fun _ _ _ _ _ _ us hl => match us, hl with | [_, _, _], _ => rfl⟩
  have C_steps_between : Cal P w K mg base CX 1 "steps_between" ["p", "q"] (sp_steps_between P w K) := ⟨_, fd_steps_between, ok_steps_between F_steps_between  oc bt, g_steps_between, F_steps_between.kp, F_steps_between.bindsN fun _ _ _ _ _ _ us hl => match us, hl with | [_, _], _ => rfl⟩
  have C_pairs_by_steps : Cal P w K mg base CX 5 "pairs_by_steps" ["board", "half"] (sp_pairs_by_steps P w K) := ⟨_, fd_pairs_by_steps, ok_pairs_by_steps F_pairs_by_steps C_pairs_of C_steps_between la_pairs_by_steps oc bt, g_pairs_by_steps, F_pairs_by_steps.kp, F_pairs_by_steps.bindsN fun _ _ _ _ _ _ us hl => match us, hl with | [_, _], _ => rfl⟩
  have C_moved_own : Cal P w K mg base CX 1 "moved" ["corner", "letter"] (sp_moved_own P w K) := ⟨_, fd_moved_own, ok_moved_own F_moved_own  oc bt, g_moved_own, F_moved_own.kp, F_moved_own.bindsN fun _ _ _ _ _ _ us hl => match us, hl with | [_, _], _ => rfl⟩
  have C_first_letter : Cal P w K mg base CX 1 "first_letter" ["table", "p", "q"] (sp_first_letter P w K) := ⟨_, fd_first_letter, ok_first_letter F_first_letter  oc bt, g_first_letter, F_first_letter.kp, F_first_letter.bindsN fun _ _ _ _ _ _ us hl => match us, hl with | [_, _, _], _ => rfl⟩
  have C_last_letters : Cal P w K mg base CX 6 "last_letters" ["board", "half", "table"] (sp_last_letters P w K) := ⟨_, fd_last_letters, ok_last_letters F_last_letters C_pairs_by_steps C_moved_own C_first_letter oc bt, g_last_letters, F_last_letters.kp, F_last_letters.bindsN fun _ _ _ _ _ _ us hl => match us, hl with | [_, _, _], _ => rfl⟩
  have C_before : Cal P w K mg base CX 1 "before" ["q", "letter"] (sp_before P w K) := ⟨_, fd_before, ok_before F_before  oc bt, g_before, F_before.kp, F_before.bindsN fun _ _ _ _ _ _ us hl => match us, hl with | [_, _], _ => rfl⟩
  have C_find_broken_pair : Cal P w K mg base CX 7 "find_broken_pair" ["board", "half", "letters"] (sp_find_broken_pair P w K) := ⟨_, fd_find_broken_pair, ok_find_broken_pair F_find_broken_pair C_letters_by_pair C_last_letters C_pairs_by_steps C_before C_first_letter oc bt, g_find_broken_pair, F_find_broken_pair.kp, F_find_broken_pair.bindsN fun _ _ _ _ _ _ us hl => match us, hl with | [_, _, _], _ => rfl⟩
  have C_Plane_init : Mkr P w K mg base CX 8 "Plane" ["self", "board", "rising", "falling"] (sp_Plane_init P w K) := ⟨_, fd_Plane_init, ok_Plane_init F_Plane_init C_has_table_form C_find_broken_pair C_letters_by_pair oc bt, g_Plane_init, gl_Plane, F_Plane_init.bindsN fun _ _ _ _ _ _ us hl => match us, hl with | [_, _, _, _], _ => rfl⟩
  have C_line : Cal P w K mg base CX 3 "_law_line" ["_law_table", "_law_p", "_law_q"] (sp_line P w K) := ⟨_, fd_line, ok_line F_line C_walk oc bt, g_line, F_line.kp, F_line.bindsN fun _ _ _ _ _ _ us hl => match us, hl with | [_, _, _], _ => rfl⟩
  have C_given : Cal P w K mg base CX 4 "_law_given" ["_law_board_here", "_law_table", "_law_cell_here"] (sp_given P w K) := ⟨_, fd_given, ok_given F_given C_draws C_line oc bt, g_given, F_given.kp, F_given.bindsN fun _ _ _ _ _ _ us hl => match us, hl with | [_, _, _], _ => rfl⟩
  have C_closure : Cal P w K mg base CX 4 "_law_closure" ["_law_table", "_law_corners"] (sp_closure P w K) := ⟨_, fd_closure, ok_closure F_closure C_line oc bt, g_closure, F_closure.kp, F_closure.bindsN fun _ _ _ _ _ _ us hl => match us, hl with | [_, _], _ => rfl⟩
  have C_on_board : Cal P w K mg base CX 1 "on_board" ["board", "corner"] (sp_on_board P w K) := ⟨_, fd_on_board, ok_on_board F_on_board  oc bt, g_on_board, F_on_board.kp, F_on_board.bindsN fun _ _ _ _ _ _ us hl => match us, hl with | [_, _], _ => rfl⟩
  have C_Plane_letter : Met P w K mg base CX 2 "Plane" "letter" ["self", "p", "q"] (sp_Plane_letter P w K) := ⟨_, fd_Plane_letter, ok_Plane_letter F_Plane_letter C_first_letter oc bt, oc.c_Plane, g_Plane_letter, F_Plane_letter.bindsN fun _ _ _ _ _ _ us hl => match us, hl with | [_, _, _], _ => rfl⟩
  have C_Plane_walked : Met P w K mg base CX 3 "Plane" "walked" ["self", "p", "q"] (sp_Plane_walked P w K) := ⟨_, fd_Plane_walked, ok_Plane_walked F_Plane_walked C_Plane_letter C_moved_own oc bt, oc.c_Plane, g_Plane_walked, F_Plane_walked.bindsN fun _ _ _ _ _ _ us hl => match us, hl with | [_, _, _], _ => rfl⟩
  have C_Plane_line : Met P w K mg base CX 4 "Plane" "line" ["self", "p", "q"] (sp_Plane_line P w K) := ⟨_, fd_Plane_line, ok_Plane_line F_Plane_line C_on_board C_Plane_walked oc bt, oc.c_Plane, g_Plane_line, F_Plane_line.bindsN fun _ _ _ _ _ _ us hl => match us, hl with | [_, _, _], _ => rfl⟩
  have C_derivation : Cal P w K mg base CX 5 "derivation" ["plane", "corners"] (sp_derivation P w K) := ⟨_, fd_derivation, ok_derivation F_derivation C_Plane_line oc bt, g_derivation, F_derivation.kp, F_derivation.bindsN fun _ _ _ _ _ _ us hl => match us, hl with | [_, _], _ => rfl⟩
  have C_closure_own : Cal P w K mg base CX 6 "closure" ["plane", "corners"] (sp_closure_own P w K) := ⟨_, fd_closure_own, ok_closure_own F_closure_own C_derivation oc bt, g_closure_own, F_closure_own.kp, F_closure_own.bindsN fun _ _ _ _ _ _ us hl => match us, hl with | [_, _], _ => rfl⟩
  have C_is_integer : Cal P w K mg base CX 1 "_law_is_integer" ["_law_told"] (sp_is_integer P w K) := ⟨_, fd_is_integer, ok_is_integer F_is_integer  oc bt, g_is_integer, F_is_integer.kp, F_is_integer.bindsN fun _ _ _ _ _ _ us hl => match us, hl with | [_], _ => rfl⟩
  have C_is_corner : Cal P w K mg base CX 2 "_law_is_corner" ["_law_told"] (sp_is_corner P w K) := ⟨_, fd_is_corner, ok_is_corner F_is_corner C_is_integer oc bt, g_is_corner, F_is_corner.kp, F_is_corner.bindsN fun _ _ _ _ _ _ us hl => match us, hl with | [_], _ => rfl⟩
  have C_is_row : Cal P w K mg base CX 3 "_law_is_row" ["_law_told", "_law_wanted"] (sp_is_row P w K) := ⟨_, fd_is_row, ok_is_row F_is_row C_is_corner oc bt, g_is_row, F_is_row.kp, F_is_row.bindsN fun _ _ _ _ _ _ us hl => match us, hl with | [_, _], _ => rfl⟩
  have C_is_right_derivation : Cal P w K mg base CX 4 "_law_is_right_derivation" ["_law_table", "_law_corners", "_law_closed", "_law_told"] (sp_is_right_derivation P w K) := ⟨_, fd_is_right_derivation, ok_is_right_derivation F_is_right_derivation C_is_corner C_line oc bt, g_is_right_derivation, F_is_right_derivation.kp, F_is_right_derivation.bindsN fun _ _ _ _ _ _ us hl => match us, hl with | [_, _, _, _], _ => rfl⟩
  have C_is_derivation : Cal P w K mg base CX 5 "is_derivation" ["plane", "corners", "entries"] (sp_is_derivation P w K) := ⟨_, fd_is_derivation, ok_is_derivation F_is_derivation C_Plane_line oc bt, g_is_derivation, F_is_derivation.kp, F_is_derivation.bindsN fun _ _ _ _ _ _ us hl => match us, hl with | [_, _, _], _ => rfl⟩
  have C_derivation_2 : Cal P w K mg base CX 5 "derivation" ["plane", "corners"] (sp_derivation_2 P w K) := ⟨_, fd_derivation, ok_derivation_2 F_derivation C_Plane_line oc bt, g_derivation, F_derivation.kp, F_derivation.bindsN fun _ _ _ _ _ _ us hl => match us, hl with | [_, _], _ => rfl⟩
  have C_closes : Cal P w K mg base CX 7 "_law_closes" ["_law_plane", "_law_table", "_law_corners", "_law_closed"] (sp_closes P w K) := ⟨_, fd_closes, ok_closes F_closes C_closure_own C_is_row C_derivation C_is_right_derivation C_is_derivation C_derivation_2 oc bt, g_closes, F_closes.kp, F_closes.bindsN fun _ _ _ _ _ _ us hl => match us, hl with | [_, _, _, _], _ => rfl⟩
  have C_all_corners : Cal P w K mg base CX 1 "_law_all_corners" ["_law_board_here"] (sp_all_corners P w K) := ⟨_, fd_all_corners, ok_all_corners F_all_corners  oc bt, g_all_corners, F_all_corners.kp, F_all_corners.bindsN fun _ _ _ _ _ _ us hl => match us, hl with | [_], _ => rfl⟩
  have C_without_doubles : Cal P w K mg base CX 2 "_law_without_doubles" ["_law_board_here", "_law_corners"] (sp_without_doubles P w K) := ⟨_, fd_without_doubles, ok_without_doubles F_without_doubles C_all_corners oc bt, g_without_doubles, F_without_doubles.kp, F_without_doubles.bindsN fun _ _ _ _ _ _ us hl => match us, hl with | [_, _], _ => rfl⟩
  have C_open_pair : Cal P w K mg base CX 5 "open_pair" ["plane", "corners"] (sp_open_pair P w K) := ⟨_, fd_open_pair, ok_open_pair F_open_pair C_Plane_line oc bt, g_open_pair, F_open_pair.kp, F_open_pair.bindsN fun _ _ _ _ _ _ us hl => match us, hl with | [_, _], _ => rfl⟩
  have C_open : Cal P w K mg base CX 4 "_law_open" ["_law_table", "_law_row"] (sp_open P w K) := ⟨_, fd_open, ok_open F_open C_line oc bt, g_open, F_open.kp, F_open.bindsN fun _ _ _ _ _ _ us hl => match us, hl with | [_, _], _ => rfl⟩
  have C_is_path : Cal P w K mg base CX 3 "_law_is_path" ["_law_told", "_law_wanted"] (sp_is_path P w K) := ⟨_, fd_is_path, ok_is_path F_is_path C_is_corner oc bt, g_is_path, F_is_path.kp, F_is_path.bindsN fun _ _ _ _ _ _ us hl => match us, hl with | [_, _], _ => rfl⟩
  have C_is_open : Cal P w K mg base CX 4 "_law_is_open" ["_law_told", "_law_wanted"] (sp_is_open P w K) := ⟨_, fd_is_open, ok_is_open F_is_open C_is_path oc bt, g_is_open, F_is_open.kp, F_is_open.bindsN fun _ _ _ _ _ _ us hl => match us, hl with | [_, _], _ => rfl⟩
  have C_closure_own_2 : Cal P w K mg base CX 6 "closure" ["plane", "corners"] (sp_closure_own_2 P w K) := ⟨_, fd_closure_own, ok_closure_own_2 F_closure_own C_derivation_2 oc bt, g_closure_own, F_closure_own.kp, F_closure_own.bindsN fun _ _ _ _ _ _ us hl => match us, hl with | [_, _], _ => rfl⟩
  have C_fill : Cal P w K mg base CX 3 "_law_fill" ["_law_board_here", "_law_forced", "_law_bits_here"] (sp_fill P w K) := ⟨_, fd_fill, ok_fill F_fill C_pairs C_moved C_walk C_letter oc bt, g_fill, F_fill.kp, F_fill.bindsN fun _ _ _ _ _ _ us hl => match us, hl with | [_, _, _], _ => rfl⟩
  exact ok_law F_law C_cell C_some_board C_bits C_fill C_texts C_Plane_init C_given C_closure C_closes C_draws C_without_doubles C_open_pair C_open C_is_open C_closure_own_2 C_is_row oc bt
theorem scr_all : ∀ ns : List Int, (H : Hp) → (yInt (K := K)).all ns H (ns.map V.int)
  | [], _ => .nil
  | _ :: ns, H => .cons rfl (scr_all ns H)
theorem sp_ends {P : Program} {w : World} (hm : ∀ ns : List Int, ns.length ≤ 63 → m_law ns = .ok true) {H : Hp} {a : Addr} {ns : List Int} (hex : exTab tfs K = true) (hT : ∀ p ∈ tfs.map fun p => He.cT K p.1, H p.2 = some (.tbl #[])) (hl : ns.length ≤ 63) (hS : SqL K H a (ns.map V.int)) : sp_law P w K [.ref a] H (fun v _ => v = .bl true) fun _ _ _ => False := by
  obtain ⟨tb, nt⟩ := tabs_start hex hT
  refine ⟨noT H, ns, noT_same, tb, nt, ⟨_, rfl, a, _, rfl, noT_sql hS, scr_all ns _⟩, ?_⟩
  have e : (fun a => m_law a) ns = .ok true := hm ns hl
  rw [e]
  exact fun F' v H' _ _ _ _ _ q => q
end CpLaw
open PySem PySem.W PySem.Calls PyProof.Rows
theorem PySem.Challenge.cw_cornerplane_k40_whole_closure_in_any_ord_holds : PySem.Challenge.rw_cornerplane_k40_whole_closure_in_any_ord.Holds := by
  w_on; o_law
  refine HandSHeadRun.head_any (r := OpenLaw.row PySem.Challenge.rw_cornerplane_k40_whole_closure_in_any_ord) (q := CpLaw.vw) (H := CpLaw.hk) (ob := CpLaw.ob) (M := 20000) (loose := CpLaw.nm) (d := HandSHeadRun.topDef (OpenLaw.row PySem.Challenge.rw_cornerplane_k40_whole_closure_in_any_ord).prog 57) (kwd := []) CpLaw.ob_eq
    (by kernel_rfl) (fun s => by kernel_rfl) CpLaw.run (by kernel_rfl) (by kernel_rfl) (by kernel_rfl) (by rfl) (by first | assumption | decide +kernel) (by decide +kernel) ⟨rfl, rfl, rfl, rfl, rfl, by decide +kernel⟩ ?hw ?hc
  case hw => w_witness2
  case hc =>
    refine LamX.walk_ofTsE (l := PySem.Challenge.rw_cornerplane_k40_whole_closure_in_any_ord) (n := 63) (k := 10) (x := "_law_script") (CX := fun _ => CpLaw.CX) rfl (by decide) (by kernel_rfl) ⟨rfl, by decide, by decide⟩ ?F (fun _ _ _ _ _ z => z)
    intro w mg fa h Y G hmg0
    obtain ⟨K, KX, c⟩ := Y
    have hmg : mg ("law" : PySem.Str) = some (.ref fa) := by
      have e : (HandSHeadRun.topDef (OpenLaw.row PySem.Challenge.rw_cornerplane_k40_whole_closure_in_any_ord).prog 57).name = ("law" : PySem.Str) := by kernel_rfl
      rw [← e]
      exact hmg0
    obtain ⟨fd, hb, hF⟩ := CpLaw.facts (P := (PySem.Challenge.rw_cornerplane_k40_whole_closure_in_any_ord).prog) (w := w) KX G hmg c
    have mem : ∀ q ∈ (CpLaw.tfs.map fun p => He.cT K p.1), ∃ p ∈ CpLaw.tf, q = He.cT K p := fun q hq => by
      obtain ⟨p, hp, e⟩ := List.mem_map.mp hq
      exact ⟨p.1, List.mem_map.mpr ⟨p, hp, rfl⟩, e.symm⟩
    refine ⟨K, KX, fd, CpLaw.tfs.map fun p => He.cT K p.1, CpLaw.sp_law _ _ K, fun q hq => ?_, fun q hq => ?_, fun q hq => ?_, hb, fun H a ns hl _ hT hS => CpLaw.sp_ends CpLaw.law_math c.more hT hl hS, hF⟩
    · obtain ⟨p, hp, e⟩ := mem q hq
      rw [e]; exact c.empty p hp
    · obtain ⟨p, hp, e⟩ := mem q hq
      rw [e]; exact c.out p hp
    · obtain ⟨p, hp, e⟩ := mem q hq
      rw [e]; exact PySem.W.codeHd_of_K KX (c.hd p hp)
